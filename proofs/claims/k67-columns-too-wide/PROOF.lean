import PyProof.Rows.All
import Wide.All
import OpenK.AllK
import Wide.FinOn
import HandS.Head0
import HandS.Head1
import HandS.Head2
import HandS.ForMost
import HandS.ForExc
import HandS.IsInst
import HandS.Zip
import HandS.Lambda
import KE.KDictKeyed
import KE.GoesMore
import KE.GoesZip
import KE.KRevSl
import KE.RegKIsAll
import HandS.TupLe
import HandS.Deep
import HandS.New
import HandS.Wide
import HandS.More
import HandS.TryOnly
import HandS.ForDict
import HandS.Iter
import HandS.DictTup
import PyProof.Rows.SortShellAny
import KE.KDictSum
import HandS.ExcIs
import HandS.ExcOwn
import HandS.WordsExc
import HandS.Codes
import PyProof.Rows.RegReprOcc
import HandS.ExcInit
import HandS.ExcField
import KE.KExcIs
import HandS.Conv
import PyProof.P3Eq
import KE.IntTextLaws
import HandS.FromBytesMap
import KE.DataMinKey
import HandS.EndTab
import KE.KNestM
import HandS.Text
import HandS.Replace
import PyProof.Rows.StrLawsPart
import KE.SortData
import KE.DataMinMax
import PyProof.Draws
import PySem.Challenge.RW_rotafair_k67_columns_too_wide
set_option Elab.async false
set_option linter.all false
set_option maxRecDepth 100000
set_option maxHeartbeats 0
section
set_option maxHeartbeats 0
namespace K67
open PySem PySem.W PyProof.Rows
def aoO:List PySem.Str:=["_wall","__name__","RotaError","NoName","TooWide","Faulty","MOST_WAYS","needs_hold","pairs_hold","columns","Costs","EvenCosts","ChangeCosts","LevelCosts","total_of","skill_faults","leave_faults","need_faults","most_faults","rule_faults","pair_faults","faults","Paper","Answer","Found","Without","fits","last_of","Rule","Never"]
def aoP:List PySem.Str:=["MOST_ENTRIES","Hand","hands_of","first_entry","step","steps","ended","least_costs","lands","Book","page_behind","rota_back","least_by_book","Person","House","_law_cell_at","_law_names","_law_kinds","_law_day","_law_costs","_law_product","_law_refused","_law_house","_law_quiet_floor"]
def Ql:List PySem.Str:=aoO++aoP
abbrev xq:PySem.Program:=PySem.W.view (PySem.W.OpenLaw.row PySem.Challenge.rw_rotafair_k67_columns_too_wide).prog [62]
theorem xob(as:List PySem.Addr)(s:PySem.W.SharedT):as.map (HandSHeadRun.getT s)=as.map s.abs.heap.get?:=List.map_congr_left fun a _=>HandSHeadRun.getT_eq s a
local macro_rules| `(tactic|o_head $H)=> `(tactic|exact (fun (_:PySem.W.Hook)=>by assumption) $H)
theorem Ho(h:(PySem.W.OpenLaw.row PySem.Challenge.rw_rotafair_k67_columns_too_wide).Holds):(PySem.W.OpenLaw.row PySem.Challenge.rw_rotafair_k67_columns_too_wide).Holds:=by
 k_head
end K67
namespace K67
open PySem PySem.W PyProof.Rows
def xP:PySem.Params:={ strHash:=fun _=>0,shareClass:=fun _=>0,mergeTok:=fun t=>t,idOf:=fun _=>0,idOfShared:=fun _ _=>0,followText:=fun _=>false,idOfImm:=fun _=>0 }
noncomputable def xas:List PySem.Addr:=(K67.Ho.heap_1 xP).map (·.1)
def xts:List PySem.Addr:=[ 569]
theorem xe: ∀P,xas=(K67.Ho.heap_1 P).map (·.1):=fun P=>by kernel_rfl
theorem aAd{α β γ δ:Type}{o:Option α}{f:α→β}{g:α→γ}{h:α→δ}{a:β}{b:γ}{c:δ}(A:o.map f=some a)(B:o.map g=some b)(C:o.map h=some c):o.map (fun s=>(f s,g s,h s))=some (a,b,c):=by
 cases o with
 |none=>cases A
 |some s=>simp only [Option.map_some,Option.some.injEq] at A B C;simp only [Option.map_some,A,B,C]
noncomputable abbrev avp(w:World)(os:OsState):Option PySem.W.SharedT:=HandSHeadRun.endF (HandSHeadRun.stepQ (HandSHeadRun.denQ HandSHeadRun.tabQ) (PySem.W.OpenLaw.row PySem.Challenge.rw_rotafair_k67_columns_too_wide).prog w) 9000 (PySem.W.OpenLaw.row PySem.Challenge.rw_rotafair_k67_columns_too_wide).prog w os
theorem aAe(w:World)(os:OsState):(avp w os).map (fun s=>HandSHeadRun.looksF (PySem.W.OpenLaw.row PySem.Challenge.rw_rotafair_k67_columns_too_wide).prog (boot_heap w.params) s.abs)=some true:=by kernel_rfl
theorem aAf(w:World)(os:OsState):(avp w os).map (fun s=>HandSHeadRun.seenQ xq Ql (importedModules (PySem.W.OpenLaw.row PySem.Challenge.rw_rotafair_k67_columns_too_wide).prog.main.body) (fun s=>PySem.W.xlAt xq [] s&&PySem.W.recOk (PySem.W.OpenLaw.row PySem.Challenge.rw_rotafair_k67_columns_too_wide).toRowW.records s) s.abs)=some (PySem.W.openGood xq Ql):=by kernel_rfl
theorem aAg(w:World)(os:OsState):(avp w os).map (fun s=>((List.map (HandSHeadRun.getT s) xas,List.map (HandSHeadRun.getT s) xts):List (Option PySem.Obj)×List (Option PySem.Obj)))=some ((PySem.W.kmHook K67.Ho.heap_1 xas xe xts).val w):=by kernel_rfl
theorem aDN(w:World):HandSHeadRun.RunEq (PySem.W.OpenLaw.row PySem.Challenge.rw_rotafair_k67_columns_too_wide) xq (PySem.W.kmHook K67.Ho.heap_1 xas xe xts) (fun s=>((List.map (HandSHeadRun.getT s) xas,List.map (HandSHeadRun.getT s) xts):List (Option PySem.Obj)×List (Option PySem.Obj))) 9000 Ql w:=fun os=>aAd (aAe w os) (aAf w os) (aAg w os)
theorem aAh(hw:(PySem.W.OpenLaw.row PySem.Challenge.rw_rotafair_k67_columns_too_wide).toRowW.promised)(call:PySem.W.WalkO xq Ql (PySem.W.XL xq []) (PySem.W.kmHook K67.Ho.heap_1 xas xe xts).says (PySem.W.OpenLaw.row PySem.Challenge.rw_rotafair_k67_columns_too_wide).toRowW (HandSHeadRun.topDef (PySem.W.OpenLaw.row PySem.Challenge.rw_rotafair_k67_columns_too_wide).prog 62) [] fun f vs=>PySem.call f vs):(PySem.W.OpenLaw.row PySem.Challenge.rw_rotafair_k67_columns_too_wide).Holds:=
 HandSHeadRun.head_any (r:=(PySem.W.OpenLaw.row PySem.Challenge.rw_rotafair_k67_columns_too_wide)) (q:=xq) (H:=PySem.W.kmHook K67.Ho.heap_1 xas xe xts) (ob:=fun s=>((List.map (HandSHeadRun.getT s) xas,List.map (HandSHeadRun.getT s) xts):List (Option PySem.Obj)×List (Option PySem.Obj))) (M:=9000) (loose:=Ql) (d:=HandSHeadRun.topDef (PySem.W.OpenLaw.row PySem.Challenge.rw_rotafair_k67_columns_too_wide).prog 62) (kwd:=[]) (fun s=>Prod.ext (xob xas s) (xob xts s)) (by kernel_rfl) (fun s=>by kernel_rfl) aDN (by kernel_rfl) (by kernel_rfl) (by kernel_rfl) (by rfl) (by first|assumption|decide+kernel) (by decide+kernel) ⟨rfl,rfl,rfl,rfl,rfl,by decide+kernel⟩ hw call
end K67
end
section
namespace DL
open PySem L2
abbrev Tx:=List Nat
abbrev lY(x:Str):Tx:=x.cps.toList
def aZ(l:Tx):Str:=⟨l.toArray⟩
theorem adM(l:Tx):lY (aZ l)=l:=rfl
theorem vJ(x:Str):aZ (lY x)=x:=TL.ext_tl rfl
theorem uE{a b:Tx}(h:aZ a=aZ b):a=b:=by
 have:=congrArg lY h;exact this
def oF(x:Tx):Bool:=x.all fun c=>decide (c≤1114111)
abbrev KD:=Sum Int Tx
def kOf:KD→Key
 | .inl i=> .inl i
 | .inr x=> .inr (aZ x)
def adN:KD→Prop
 | .inl _=>True
 | .inr x=>x.length≤sizeLine∧oF x=true
abbrev KB:=List Tx×List Int
inductive D where
 |non|bl (b:Bool)|int (i:Int)|str (x:Tx)|ty (n:String)|fn (a:Addr)
 |lst (xs:List D)|tup (xs:List D)|obj (C:Addr) (fs:List (Str×D))|dct (kvs:List (KD×D))|nct (kvs:List (KB×D))
class bG where
 T:List (Addr×Str)
 w:Option World
def nkB(k:KB):NestedKey:= .tup [.tup (k.1.map fun x=> .text (aZ x)), .tup (k.2.map .num)]
def lM(k:KB):D:= .tup [.tup (k.1.map .str), .tup (k.2.map .int)]
def atx(w:World)(x:NestedKey×Addr×Value):DictEntry:=⟨x.1.hash w, .ref x.2.1,x.2.2⟩
abbrev NKT:List (NestedKey×Addr×V)→List (NestedKey×Addr×Value)→Prop:=Paired fun p q=>p.1=q.1∧p.2.1=q.2.1∧RelV p.2.2 q.2.2
def aDO(w:World)(a:Addr)(es:List (NestedKey×Addr×V))(h:Heap):Prop:=es.length≤sizeLine∧(a==sysModules)=false∧ ∃xs,NKT es xs∧ ∃o des ep,h.get? a=some o∧o.ExactDict∧o.data= .dict des ep∧des.toList=xs.map (atx w)∧(xs.map (·.1)).Nodup
def nkO(w:World)(a:Addr)(es:List (NestedKey×Addr×V)):HO:= .ext (aDO w a es)
theorem Qm{w:World}{a c:Addr}{es:List (NestedKey×Addr×V)}{q:Str}:nkO w a es≠LamX.CodeO c q:=by
 intro z
 unfold nkO LamX.CodeO at z
 have hz:=HO.ext.inj z
 have full: ∀n b,b<n→({ objs:=Array.replicate n ({ cls:= .none,data:= .fields #[.none, .str q default] }:Obj) }:Heap).get? b=some { cls:= .none,data:= .fields #[.none, .str q default] }:=fun n b hb=>by
  unfold Heap.get?
  have:({ objs:=Array.replicate n ({ cls:= .none,data:= .fields #[.none, .str q default] }:Obj) }:Heap).objs[b]? =some { cls:= .none,data:= .fields #[.none, .str q default] }:=by
   show (Array.replicate n _)[b]? =some _
   simp [Array.getElem?_replicate,hb]
  rw [this]
 have hx:=full (max a c+1) a (Nat.lt_succ_of_le (Nat.le_max_left _ _))
 have hc:=full (max a c+1) c (Nat.lt_succ_of_le (Nat.le_max_right _ _))
 obtain ⟨_,_,xs,_,o,des,ep,e1,e2,e3,_⟩:=(congrFun hz _).mpr ⟨_,_,_,hc,rfl,rfl⟩
 rw [hx] at e1
 cases e1
 cases e3
variable[bG]
mutual
inductive Rep(K:PySem.W.Frag)(F:Hp):V→D→Prop
 |non:Rep K F .non .non
 |bl (b:Bool):Rep K F (.bl b) (.bl b)
 |int (i:Int):Rep K F (.int i) (.int i)
 |str (x:Tx):x.length≤sizeLine→oF x=true→Rep K F (.str (aZ x)) (.str x)
 |ty (n:String):Rep K F (.ty n) (.ty n)
 |fn (a:Addr):Rep K F (.ref a) (.fn a)
 |lst {a:Addr} {vs:List V} {xs:List D}:SqL K F a vs→xs.length≤sizeLine→aY K F vs xs→Rep K F (.ref a) (.lst xs)
 |tup {a:Addr} {vs:List V} {xs:List D}:SqT K F a vs→xs.length≤sizeLine→aY K F vs xs→Rep K F (.ref a) (.tup xs)
 |obj {a C dx:Addr} {fs:List (Str×V)} {gs:List (Str×D)}:F a=some (.ins C dx fs)→jN K F fs gs→Rep K F (.ref a) (.obj C gs)
 |dct {a:Addr} {vs:List (Key×V)} {ks:List (KD×D)}:F a=some (.dK vs)→vs.map (·.1)=ks.map (fun p=>kOf p.1)→(∀p∈ks,adN p.1)→aY K F (vs.map (·.2)) (ks.map (·.2))→Rep K F (.ref a) (.dct ks)
 |nct {a:Addr} {w:World} {es:List (NestedKey×Addr×V)} {ks:List (KB×D)}:bG.w=some w→F a=some (nkO w a es)→es.map (·.1)=ks.map (fun p=>nkB p.1)→aY K F (es.map fun e=>V.ref e.2.1) (ks.map fun p=>lM p.1)→aY K F (es.map (·.2.2)) (ks.map (·.2))→Rep K F (.ref a) (.nct ks)
inductive aY(K:PySem.W.Frag)(F:Hp):List V→List D→Prop
 |nil:aY K F [] []
 |cons {v:V} {vs:List V} {d:D} {ds:List D}:Rep K F v d→aY K F vs ds→aY K F (v::vs) (d::ds)
inductive jN(K:PySem.W.Frag)(F:Hp):List (Str×V)→List (Str×D)→Prop
 |nil:jN K F [] []
 |cons {f:Str} {v:V} {vs:List (Str×V)} {d:D} {ds:List (Str×D)}:Rep K F v d→jN K F vs ds→jN K F ((f,v)::vs) ((f,d)::ds)
end
theorem cD{K:PySem.W.Frag}{H H':Hp}{a:Addr}{xs:List V}(e:Same H H')(h:SqT K H a xs):SqT K H' a xs:=by
 rcases h with (h|⟨o,h⟩)|h
 ·exact .inl (.inl (e _ _ h))
 ·exact .inl (.inr ⟨o,e _ _ h⟩)
 ·exact .inr h
section
variable{K:PySem.W.Frag}{F F':Hp}
mutual
theorem Rep.mono(e:Same F F'): ∀{v:V} {d:D},Rep K F v d→Rep K F' v d
 |_,_, .non=> .non
 |_,_, .bl b=> .bl b
 |_,_, .int i=> .int i
 |_,_, .str x h g=> .str x h g
 |_,_, .ty n=> .ty n
 |_,_, .fn a=> .fn a
 |_,_, .lst h z r=> .lst (e.seq h) z (aY.mono e r)
 |_,_, .tup h z r=> .tup (cD e h) z (aY.mono e r)
 |_,_, .obj h r=> .obj (e _ _ h) (jN.mono e r)
 |_,_, .dct h k o r=> .dct (e _ _ h) k o (aY.mono e r)
 |_,_, .nct w h k a r=> .nct w (e _ _ h) k (aY.mono e a) (aY.mono e r)
theorem aY.mono(e:Same F F'): ∀{v:List V} {d:List D},aY K F v d→aY K F' v d
 |_,_, .nil=> .nil
 |_,_, .cons h r=> .cons (Rep.mono e h) (aY.mono e r)
theorem jN.mono(e:Same F F'): ∀{v:List (Str×V)} {d:List (Str×D)},jN K F v d→jN K F' v d
 |_,_, .nil=> .nil
 |_,_, .cons h r=> .cons (Rep.mono e h) (jN.mono e r)
end
theorem aY.length: ∀{v:List V} {d:List D},aY K F v d→v.length=d.length
 |_,_, .nil=>rfl
 |_,_, .cons h r=>by simp [aY.length r]
theorem aY.get: ∀{v:List V} {d:List D} {i:Nat} {x:V},aY K F v d→v[i]? =some x→ ∃y,d[i]? =some y∧Rep K F x y
 |_,_,_,_, .nil,h=>by simp at h
 |_,_,0,_, .cons h r,e=>by simp at e;subst e;exact ⟨_,rfl,h⟩
 |_,_,i+1,_, .cons h r,e=>by
  obtain ⟨y,h1,h2⟩:=aY.get (i:=i) r (by simpa using e)
  exact ⟨y,by simpa using h1,h2⟩
theorem aY.getD: ∀{v:List V} {d:List D} {i:Nat} {y:D},aY K F v d→d[i]? =some y→ ∃x,v[i]? =some x∧Rep K F x y
 |_,_,_,_, .nil,h=>by simp at h
 |_,_,0,_, .cons h r,e=>by simp at e;subst e;exact ⟨_,rfl,h⟩
 |_,_,i+1,_, .cons h r,e=>by
  obtain ⟨y,h1,h2⟩:=aY.getD (i:=i) r (by simpa using e)
  exact ⟨y,by simpa using h1,h2⟩
theorem aY.append: ∀{v w:List V} {d e:List D},aY K F v d→aY K F w e→aY K F (v++w) (d++e)
 |_,_,_,_, .nil,s=>s
 |_,_,_,_, .cons h r,s=> .cons h (aY.append r s)
theorem aY.take: ∀{v:List V} {d:List D} (n:Nat),aY K F v d→aY K F (v.take n) (d.take n)
 |_,_,0,_=>by simp;exact .nil
 |_,_,n+1, .nil=> .nil
 |_,_,n+1, .cons h r=> .cons h (aY.take n r)
theorem aY.drop: ∀{v:List V} {d:List D} (n:Nat),aY K F v d→aY K F (v.drop n) (d.drop n)
 |_,_,0,h=>h
 |_,_,n+1, .nil=> .nil
 |_,_,n+1, .cons h r=>aY.drop n r
theorem aY.set{x:V}{y:D}(h:Rep K F x y): ∀{v:List V} {d:List D} (i:Nat),aY K F v d→aY K F (v.set i x) (d.set i y)
 |_,_,_, .nil=> .nil
 |_,_,0, .cons _ r=> .cons h r
 |_,_,i+1, .cons q r=> .cons q (aY.set h i r)
theorem aY.ints: ∀{vs:List V} {ns:List Int},aY K F vs (ns.map D.int)→vs=ns.map V.int
 |_,[],h=>by cases h;rfl
 |_,n::ns,h=>by
  cases h with
  |cons h r=>cases h;rw [aY.ints r];rfl
theorem aY.of_ints: ∀(ns:List Int),aY K F (ns.map V.int) (ns.map D.int)
 |[]=> .nil
 |n::ns=> .cons (.int n) (aY.of_ints ns)
theorem aY.bls: ∀{vs:List V} {ns:List Bool},aY K F vs (ns.map D.bl)→vs=ns.map V.bl
 |_,[],h=>by cases h;rfl
 |_,n::ns,h=>by
  cases h with
  |cons h r=>cases h;rw [aY.bls r];rfl
theorem aY.strs: ∀{vs:List V} {ns:List Tx},aY K F vs (ns.map D.str)→vs=(ns.map aZ).map V.str
 |_,[],h=>by cases h;rfl
 |_,n::ns,h=>by
  cases h with
  |cons h r=>cases h;rw [aY.strs r];rfl
theorem aY.of_strs: ∀(ns:List Tx),(∀n∈ns,n.length≤sizeLine∧oF n=true)→aY K F ((ns.map aZ).map V.str) (ns.map D.str)
 |[],_=> .nil
 |n::ns,h=> .cons (.str n (h n (by simp)).1 (h n (by simp)).2) (aY.of_strs ns fun m hm=>h m (by simp [hm]))
theorem jN.look{f:Str}: ∀{v:List (Str×V)} {d:List (Str×D)} {y:D},jN K F v d→d.lookup f=some y→ ∃x,v.lookup f=some x∧Rep K F x y
 |_,_,_, .nil,h=>by simp at h
 |(g,x)::vs,(_,z)::ds,y, .cons h r,e=>by
  simp only [List.lookup] at e ⊢
  cases q:f==g with
  |true=>rw [q] at e;simp at e;subst e;exact ⟨x,rfl,h⟩
  |false=>rw [q] at e;exact jN.look r e
theorem jN.look_none{f:Str}: ∀{v:List (Str×V)} {d:List (Str×D)},jN K F v d→d.lookup f=none→v.lookup f=none
 |_,_, .nil,h=>rfl
 |(g,x)::vs,(_,z)::ds, .cons h r,e=>by
  simp only [List.lookup] at e ⊢
  cases q:f==g with
  |true=>rw [q] at e;simp at e
  |false=>rw [q] at e;exact jN.look_none r e
theorem jN.length: ∀{v:List (Str×V)} {d:List (Str×D)},jN K F v d→v.length=d.length
 |_,_, .nil=>rfl
 |_,_, .cons h r=>by simp [jN.length r]
end
def abg(f:Str)(d:D):List (Str×D)→List (Str×D)
 |[]=>[(f,d)]
 |(g,e)::r=>if g=f then (g,d)::r else (g,e)::abg f d r
def ScF(F H:Hp):Prop:= ∀a (ks:List Key),H a=some (.tup (ks.map kV))→F a≠none
abbrev pK(F H:Hp):Prop:=LamX.Tabs bG.T H∧(∀p∈bG.T,F p.1=none)∧ScF F H
theorem Same.ne{F F':Hp}(e:Same F F'){a:Addr}(h:F a≠none):F' a≠none:=by
 cases q:F a with
 |none=>exact absurd q h
 |some o=>rw [e a o q];simp
theorem ScF.up{F F' H:Hp}(s:ScF F H)(e:Same F F'):ScF F' H:=fun a ks h=>Same.ne e (s a ks h)
theorem ScF.upd{F H:Hp}{p:Addr}{o:HO}(s:ScF F H)(nt: ∀ks:List Key,o≠ .tup (ks.map kV)):ScF F (upd H p o):=fun a ks h=>by
 by_cases e:a=p
 ·subst e;rw [upd_same] at h;exact absurd (Option.some.inj h) (nt ks)
 ·rw [upd_ne e] at h;exact s a ks h
theorem ScF.aDP{F H:Hp}{p:Addr}{o u:HO}(s:ScF F H):ScF (L2.upd F p u) (L2.upd H p o):=fun a ks h=>by
 by_cases e:a=p
 ·subst e;rw [upd_same];simp
 ·rw [upd_ne e] at h ⊢;exact s a ks h
theorem aiK{H:Hp}{P:Addr}{q:Str}(t:LamX.TabS H P q):H P≠none:=by
 obtain ⟨ps,h,_⟩:=t
 rw [h]
 simp
structure Ext(F H F' H':Hp):Prop where
 f:Same F F'
 n:LamX.ExtN H H'
 w:Same F' H'
 o: ∀a,H a≠none→F' a=F a
 t: ∀P q,(P,q)∈bG.T→LamX.TabS H P q→LamX.TabS H' P q
 s: ∀a,H a≠none→H' a≠none
 m:ScF F H→ScF F' H'
theorem Ext.h{F H F' H':Hp}(e:Ext F H F' H')(b:Addr)(o:HO)(q:H b=some o)(nt: ∀ps,o≠ .tbl ps:=by intro _ z;cases z):H' b=some o:=e.n b o q nt
theorem Ext.of{F H F' H':Hp}(f:Same F F')(h:Same H H')(w:Same F' H')(o: ∀a,H a≠none→F' a=F a)(m:ScF F H→ScF F' H'):Ext F H F' H':=
 ⟨f,fun b o q _=>h b o q,w,o,fun _ _ _ t=>t.ext h,fun a n=>by
  cases q:H a with
  |none=>exact absurd q n
  |some o=>rw [h a o q];simp,m⟩
theorem Ext.refl{F H:Hp}(e:Same F H):Ext F H F H:= .of (.refl _) (.refl _) e (fun _ _=>rfl) fun s=>s
theorem Ext.free{F H F' H':Hp}(e:Ext F H F' H'){a:Addr}(n:H' a=none):H a=none:=by
 cases q:H a with
 |none=>rfl
 |some o=>exact absurd n (e.s a (by rw [q];simp))
abbrev NTb(H:Hp)(a:Addr):Prop:= ∀u,H a=some u→(∀ps,u≠ .tbl ps)∧ ∀c q,u≠LamX.CodeO c q
theorem Ext.trans{F H F1 H1 F2 H2:Hp}(a:Ext F H F1 H1)(b:Ext F1 H1 F2 H2):Ext F H F2 H2:=
 ⟨a.f.trans b.f,a.n.trans b.n,b.w,fun x n=>by rw [b.o x (a.s x n),a.o x n],fun P q m t=>b.t P q m (a.t P q m t),fun x n=>b.s x (a.s x n),fun s=>b.m (a.m s)⟩
theorem Ext.adP{F H F' H':Hp}(e:Ext F H F' H')(t:pK F H):pK F' H':=⟨fun p hp=>e.t _ _ hp (t.1 p hp),fun p hp=>(e.o _ (aiK (t.1 p hp))).trans (t.2.1 p hp),e.m t.2.2⟩
theorem xj{H:Hp}{P a:Addr}{q:Str}{o u:HO}(t:LamX.TabS H P q)(h:H a=some u)(nt: ∀ps,u≠ .tbl ps)(ne: ∀c q,u≠LamX.CodeO c q):LamX.TabS (upd H a o) P q:=by
 obtain ⟨ps,h1,h2,h3⟩:=t
 refine ⟨ps,by rw [upd_ne (fun z=>nt ps (by rw [←z,h1] at h;exact (Option.some.inj h).symm))];exact h1,h2,fun pos cv hc=> ?_⟩
 obtain ⟨c,e1,e2⟩:=h3 pos cv hc
 refine ⟨c,e1, ?_⟩
 rw [upd_ne (fun z=>ne _ _ (by rw [←z,e2] at h;exact (Option.some.inj h).symm))]
 exact e2
theorem aN{H:Hp}{p:Addr}{o:HO}(h:H p=none):Same H (upd H p o):=fun b u e=>by
 rw [upd_ne (ne_of_none e h)];exact e
theorem abh{F H:Hp}{p:Addr}{o:HO}(e:Same F H):Same (upd F p o) (upd H p o):=fun b u q=>by
 by_cases hb:b=p
 ·subst hb;rw [upd_same] at q ⊢;exact q
 ·rw [upd_ne hb] at q ⊢;exact e _ _ q
theorem Ext.new{F H:Hp}{p:Addr}{o:HO}(e:Same F H)(h:H p=none):Ext F H (upd F p o) (upd H p o):=
 .of (aN (e.free h)) (aN h) (abh e) (fun a n=>upd_ne (fun z=>n (by rw [z];exact h))) fun s=>s.aDP
theorem Ext.adQ{F H:Hp}{p:Addr}{o:HO}(e:Same F H)(h:H p=none)(nk: ∀ks:List Key,o≠ .tup (ks.map kV):=by intro _ z;cases z):Ext F H F (upd H p o):=
 .of (.refl _) (aN h) (e.trans (aN h)) (fun _ _=>rfl) fun s=>s.upd nk
theorem Ext.aoQ{F H F' H':Hp}{A:Addr}{o u:HO}(e:Ext F H F' H')(nA:H A=none)(nF:F' A=none)(h:H' A=some u)(nt: ∀ps,u≠ .tbl ps:=by intro _ z;cases z)(ne: ∀c q,u≠LamX.CodeO c q:=by intro _ _ z;unfold LamX.CodeO at z;cases z)(nk: ∀ks:List Key,o≠ .tup (ks.map kV):=by intro _ z;cases z):Ext F H F' (upd H' A o):=
 ⟨e.f,fun b x q n=>by rw [upd_ne (ne_of_none q nA)];exact e.n b x q n,fun b x q=>by rw [upd_ne (ne_of_none q nF)];exact e.w b x q,e.o,fun P q m t=>xj (e.t P q m t) h nt ne,fun a n=>by
  have:a≠A:=fun z=>n (by rw [z];exact nA)
  rw [upd_ne this]
  exact e.s a n,fun s=>(e.m s).upd nk⟩
theorem Ext.aAi{F H F' H':Hp}{A:Addr}{o:HO}(e:Ext F H F' H')(nA:H A=none)(nF:F' A=none)(nt:NTb H' A)(nk: ∀ks:List Key,o≠ .tup (ks.map kV):=by intro _ z;cases z):Ext F H F' (upd H' A o):=by
 cases q:H' A with
 |none=>exact e.trans (.adQ e.w q nk)
 |some u=>exact e.aoQ nA nF q (nt u q).1 (nt u q).2 nk
theorem NTb.of{H:Hp}{a:Addr}{u:HO}(h:H a=some u)(nt: ∀ps,u≠ .tbl ps:=by intro _ z;cases z)(ne: ∀c q,u≠LamX.CodeO c q:=by intro _ _ z;unfold LamX.CodeO at z;cases z):NTb H a:=fun w q=>by
 rw [h] at q
 cases q
 exact ⟨nt,ne⟩
theorem NTb.no{H:Hp}{a:Addr}(h:H a=none):NTb H a:=fun w q=>by rw [h] at q;cases q
theorem abi{F H:Hp}{A:Addr}{o:HO}(t:pK F H)(nt:NTb H A)(nk: ∀ks:List Key,o≠ .tup (ks.map kV):=by intro _ z;cases z):pK F (upd H A o):=by
 refine ⟨?_,t.2.1,t.2.2.upd nk⟩
 cases q:H A with
 |none=>exact fun p hp=>(t.1 p hp).ext (aN q)
 |some u=>exact fun p hp=>xj (t.1 p hp) q (nt u q).1 (nt u q).2
theorem aiL{F F' H:Hp}(t:pK F H)(l:List Addr)(nt: ∀a∈l,NTb H a)(k: ∀b,b∉l→F' b=F b)(sm:Same F F'):pK F' H:=⟨t.1,fun p hp=>by
 rw [k p.1 fun z=> ?_]
 ·exact t.2.1 p hp
 ·obtain ⟨ps,h,_⟩:=t.1 p hp
  exact (nt _ z _ h).1 ps rfl,t.2.2.up sm⟩
theorem Ext.ahB{F H F' H':Hp}{A:Addr}{u:HO}(e:Ext F H F' H')(nA:H A=none)(nF:F' A=none)(h:H' A=some u):Ext F H (upd F' A u) H':=
 ⟨e.f.trans (aN nF),e.n,fun b x q=>by
  by_cases hb:b=A
  ·subst hb;rw [upd_same] at q;cases q;exact h
  ·rw [upd_ne hb] at q;exact e.w _ _ q,fun a n=>by
  have:a≠A:=fun z=>n (by rw [z];exact nA)
  rw [upd_ne this];exact e.o a n,e.t,e.s,fun s=>(e.m s).up (aN nF)⟩
def Qn:D→Prop| .tup _=>False|_=>True
inductive gU(K:PySem.W.Frag)(F H:Hp):List V→List D→List Addr→Prop
 |nil:gU K F H [] [] []
 |sh {v:V} {d:D} {vs:List V} {ds:List D} {fp:List Addr}:Rep K F v d→(∀xs,d≠ .lst xs)→gU K F H vs ds fp→gU K F H (v::vs) (d::ds) fp
 |ow {a:Addr} {ws vs:List V} {xs ds:List D} {fp:List Addr}:H a=some (.lst ws)→aY K F ws xs→xs.length≤sizeLine→F a=none→gU K F H vs ds fp→gU K F H (.ref a::vs) (.lst xs::ds) (a::fp)
inductive Own(K:PySem.W.Frag)(F H:Hp):V→D→List Addr→Prop
 |lst {a:Addr} {vs:List V} {xs:List D}:H a=some (.lst vs)→aY K F vs xs→xs.length≤sizeLine→F a=none→Own K F H (.ref a) (.lst xs) [a]
 |obj {a C dx:Addr} {fs:List (Str×V)} {gs:List (Str×D)}:H a=some (.ins C dx fs)→jN K F fs gs→F a=none→Own K F H (.ref a) (.obj C gs) [a]
 |tup {a:Addr} {vs:List V} {xs:List D} {fp:List Addr}:H a=some (.tup vs)→gU K F H vs xs fp→xs.length≤sizeLine→F a=none→Own K F H (.ref a) (.tup xs) (a::fp)
 |dct {a:Addr} {vs:List (Key×V)} {ks:List (KD×D)}:H a=some (.dK vs)→vs.map (·.1)=ks.map (fun p=>kOf p.1)→(∀p∈ks,adN p.1)→aY K F (vs.map (·.2)) (ks.map (·.2))→F a=none→Own K F H (.ref a) (.dct ks) [a]
 |nct {a:Addr} {w:World} {es:List (NestedKey×Addr×V)} {ks:List (KB×D)}:bG.w=some w→H a=some (nkO w a es)→es.map (·.1)=ks.map (fun p=>nkB p.1)→aY K F (es.map fun e=>V.ref e.2.1) (ks.map fun p=>lM p.1)→aY K F (es.map (·.2.2)) (ks.map (·.2))→F a=none→Own K F H (.ref a) (.nct ks) [a]
theorem gU.ext{K:PySem.W.Frag}{F H F' H':Hp}(x:Ext F H F' H'): ∀{vs:List V} {ds:List D} {fp:List Addr},gU K F H vs ds fp→gU K F' H' vs ds fp
 |_,_,_, .nil=> .nil
 |_,_,_, .sh r n q=> .sh (r.mono x.f) n (q.ext x)
 |_,_,_, .ow h r z n q=> .ow (x.h _ _ h) (r.mono x.f) z (by rw [x.o _ (by rw [h];simp)];exact n) (q.ext x)
theorem gU.none{K:PySem.W.Frag}{F H:Hp}: ∀{vs:List V} {ds:List D} {fp:List Addr},gU K F H vs ds fp→ ∀a∈fp,F a=Option.none∧H a≠Option.none
 |_,_,_, .nil,_,h=>by cases h
 |_,_,_, .sh _ _ q,a,h=>q.none a h
 |_,_,_, .ow h r z n q,a,hm=>by
  rcases List.mem_cons.mp hm with e|e
  ·subst e;exact ⟨n,by rw [h];simp⟩
  ·exact q.none a e
theorem gU.nt{K:PySem.W.Frag}{F H:Hp}: ∀{vs:List V} {ds:List D} {fp:List Addr},gU K F H vs ds fp→ ∀a∈fp,NTb H a
 |_,_,_, .nil,_,h=>by cases h
 |_,_,_, .sh _ _ q,a,h=>q.nt a h
 |_,_,_, .ow h r z n q,a,hm=>by
  rcases List.mem_cons.mp hm with e|e
  ·subst e;intro u hu;rw [h] at hu;cases hu;exact ⟨fun _ z=>(by cases z),fun _ _ z=>(by unfold LamX.CodeO at z;cases z)⟩
  ·exact q.nt a e
theorem gU.t_{K:PySem.W.Frag}{F H:Hp}{b:Addr}{u:HO}: ∀{vs:List V} {ds:List D} {fp:List Addr},gU K F H vs ds fp→b∉fp→gU K F (upd H b u) vs ds fp
 |_,_,_, .nil,_=> .nil
 |_,_,_, .sh r n q,m=> .sh r n (q.t_ m)
 |_,_,_, .ow h r z n q,m=>by
  rw [List.mem_cons,not_or] at m
  exact .ow (by rw [upd_ne (fun e=>m.1 e.symm)];exact h) r z n (q.t_ m.2)
theorem gU.abj{K:PySem.W.Frag}{F H:Hp}{b:Addr}{u:HO}(nF:F b=Option.none): ∀{vs:List V} {ds:List D} {fp:List Addr},gU K F H vs ds fp→b∉fp→gU K (L2.upd F b u) H vs ds fp
 |_,_,_, .nil,_=> .nil
 |_,_,_, .sh r n q,m=> .sh (r.mono (aN nF)) n (q.abj nF m)
 |_,_,_, .ow h r z n q,m=>by
  rw [List.mem_cons,not_or] at m
  exact .ow h (r.mono (aN nF)) z (by rw [upd_ne (fun e=>m.1 e.symm)];exact n) (q.abj nF m.2)
theorem gU.hh{K:PySem.W.Frag}{F H H':Hp}: ∀{vs:List V} {ds:List D} {fp:List Addr},gU K F H vs ds fp→(∀a∈fp,H' a=H a)→gU K F H' vs ds fp
 |_,_,_, .nil,_=> .nil
 |_,_,_, .sh r n q,m=> .sh r n (q.hh m)
 |_,_,_, .ow h r z n q,m=> .ow (by rw [m _ (by simp)];exact h) r z n (q.hh fun b hb=>m b (List.mem_cons_of_mem _ hb))
theorem gU.length{K:PySem.W.Frag}{F H:Hp}: ∀{vs:List V} {ds:List D} {fp:List Addr},gU K F H vs ds fp→vs.length=ds.length
 |_,_,_, .nil=>rfl
 |_,_,_, .sh _ _ q=>by simp [q.length]
 |_,_,_, .ow _ _ _ _ q=>by simp [q.length]
theorem Own.ext{K:PySem.W.Frag}{F H F' H':Hp}{v:V}{d:D}{fp:List Addr}(x:Ext F H F' H')(h:Own K F H v d fp):Own K F' H' v d fp:=by
 cases h with
 |lst h r z n=>exact .lst (x.h _ _ h) (r.mono x.f) z (by rw [x.o _ (by rw [h];simp)];exact n)
 |obj h r n=>exact .obj (x.h _ _ h) (r.mono x.f) (by rw [x.o _ (by rw [h];simp)];exact n)
 |tup h q z n=>exact .tup (x.h _ _ h) (q.ext x) z (by rw [x.o _ (by rw [h];simp)];exact n)
 |dct h k o r n=>exact .dct (x.h _ _ h) k o (r.mono x.f) (by rw [x.o _ (by rw [h];simp)];exact n)
 |nct w h k a r n=>exact .nct w (x.h _ _ h fun _ z=>by unfold nkO at z;cases z) k (a.mono x.f) (r.mono x.f) (by rw [x.o _ (by rw [h];simp)];exact n)
theorem Own.none{K:PySem.W.Frag}{F H:Hp}{v:V}{d:D}{fp:List Addr}(h:Own K F H v d fp): ∀a∈fp,F a=none∧H a≠Option.none:=by
 cases h with
 |lst h r z n=>intro a ha;simp at ha;subst ha;exact ⟨n,by rw [h];simp⟩
 |obj h r n=>intro a ha;simp at ha;subst ha;exact ⟨n,by rw [h];simp⟩
 |dct h k o r n=>intro a ha;simp at ha;subst ha;exact ⟨n,by rw [h];simp⟩
 |nct w h k b r n=>intro a ha;simp at ha;subst ha;exact ⟨n,by rw [h];simp⟩
 |tup h q z n=>
  intro a ha
  rcases List.mem_cons.mp ha with e|e
  ·subst e;exact ⟨n,by rw [h];simp⟩
  ·exact q.none a e
theorem Own.nt{K:PySem.W.Frag}{F H:Hp}{v:V}{d:D}{fp:List Addr}(h:Own K F H v d fp): ∀a∈fp,NTb H a:=by
 cases h with
 |lst h r z n=>intro a ha;simp at ha;subst ha;intro u hu;rw [h] at hu;cases hu;exact ⟨fun _ z=>(by cases z),fun _ _ z=>(by unfold LamX.CodeO at z;cases z)⟩
 |obj h r n=>intro a ha;simp at ha;subst ha;intro u hu;rw [h] at hu;cases hu;exact ⟨fun _ z=>(by cases z),fun _ _ z=>(by unfold LamX.CodeO at z;cases z)⟩
 |dct h k o r n=>intro a ha;simp at ha;subst ha;intro u hu;rw [h] at hu;cases hu;exact ⟨fun _ z=>(by cases z),fun _ _ z=>(by unfold LamX.CodeO at z;cases z)⟩
 |nct w h k b r n=>intro a ha;simp at ha;subst ha;intro u hu;rw [h] at hu;cases hu;exact ⟨fun _ z=>(by unfold nkO at z;cases z),fun _ _=>Qm⟩
 |tup h q z n=>
  intro a ha
  rcases List.mem_cons.mp ha with e|e
  ·subst e;intro u hu;rw [h] at hu;cases hu;exact ⟨fun _ z=>(by cases z),fun _ _ z=>(by unfold LamX.CodeO at z;cases z)⟩
  ·exact q.nt a e
theorem Own.t_{K:PySem.W.Frag}{F H:Hp}{v:V}{d:D}{fp:List Addr}{b:Addr}{u:HO}(o:Own K F H v d fp)(m:b∉fp):Own K F (L2.upd H b u) v d fp:=by
 cases o with
 |lst h r z f=>exact .lst (by rw [upd_ne (fun e=>m (by simp [e]))];exact h) r z f
 |obj h r f=>exact .obj (by rw [upd_ne (fun e=>m (by simp [e]))];exact h) r f
 |dct h k o r f=>exact .dct (by rw [upd_ne (fun e=>m (by simp [e]))];exact h) k o r f
 |nct w h k b r f=>exact .nct w (by rw [upd_ne (fun e=>m (by simp [e]))];exact h) k b r f
 |tup h q z f=>
  rw [List.mem_cons,not_or] at m
  exact .tup (by rw [upd_ne (fun e=>m.1 e.symm)];exact h) (q.t_ m.2) z f
theorem Own.abj{K:PySem.W.Frag}{F H:Hp}{v:V}{d:D}{fp:List Addr}{b:Addr}{u:HO}(nF:F b=Option.none)(o:Own K F H v d fp)(m:b∉fp):Own K (L2.upd F b u) H v d fp:=by
 have sm:Same F (L2.upd F b u):=aN nF
 cases o with
 |lst h r z f=>exact .lst h (r.mono sm) z (by rw [upd_ne (fun e=>m (by simp [e]))];exact f)
 |obj h r f=>exact .obj h (r.mono sm) (by rw [upd_ne (fun e=>m (by simp [e]))];exact f)
 |dct h k o r f=>exact .dct h k o (r.mono sm) (by rw [upd_ne (fun e=>m (by simp [e]))];exact f)
 |nct w h k b r f=>exact .nct w h k (b.mono sm) (r.mono sm) (by rw [upd_ne (fun e=>m (by simp [e]))];exact f)
 |tup h q z f=>
  rw [List.mem_cons,not_or] at m
  exact .tup h (q.abj nF m.2) z (by rw [upd_ne (fun e=>m.1 e.symm)];exact f)
def jR(K:PySem.W.Frag)(F H:Hp)(v:V)(d:D):Prop:=Rep K F v d∨ ∃fp,Own K F H v d fp∧Qn d
theorem jR.ext{K:PySem.W.Frag}{F H F' H':Hp}{v:V}{d:D}(x:Ext F H F' H')(h:jR K F H v d):jR K F' H' v d:=by
 rcases h with h|⟨fp,h,nt⟩
 ·exact .inl (h.mono x.f)
 ·exact .inr ⟨fp,h.ext x,nt⟩
inductive Tr where
 |sh (d:D)
 |lst (xs:List Tr)
 |tup (xs:List Tr)
 |obj (C:Addr) (fs:List (Str×Tr))
 |dct (kvs:List (KD×Tr))
 |dtt (kvs:List (List KD×Tr))
 |dn (kvs:List (KB×D))
 |hole
mutual
inductive cU(K:PySem.W.Frag)(F H:Hp):V→Tr→List Addr→Prop
 |sh {v:V} {d:D}:Rep K F v d→cU K F H v (.sh d) []
 |lst {a:Addr} {vs:List V} {xs:List Tr} {fp:List Addr}:H a=some (.lst vs)→F a=none→xs.length≤sizeLine→bh K F H vs xs fp→cU K F H (.ref a) (.lst xs) (a::fp)
 |tup {a:Addr} {vs:List V} {xs:List Tr} {fp:List Addr}:H a=some (.tup vs)→F a=none→xs.length≤sizeLine→bh K F H vs xs fp→cU K F H (.ref a) (.tup xs) (a::fp)
 |obj {a C dx:Addr} {vs:List (Str×V)} {gs:List (Str×Tr)} {fp:List Addr}:H a=some (.ins C dx vs)→F a=none→vs.map (·.1)=gs.map (·.1)→bh K F H (vs.map (·.2)) (gs.map (·.2)) fp→cU K F H (.ref a) (.obj C gs) (a::fp)
 |dct {a:Addr} {vs:List (Key×V)} {ks:List (KD×Tr)} {fp:List Addr}:H a=some (.dK vs)→F a=none→vs.map (·.1)=ks.map (fun p=>kOf p.1)→(∀p∈ks,adN p.1)→bh K F H (vs.map (·.2)) (ks.map (·.2)) fp→cU K F H (.ref a) (.dct ks) (a::fp)
 |dtt {a:Addr} {vs:List (List Key×V)} {ks:List (List KD×Tr)} {fp:List Addr}:H a=some (.dT vs)→F a=none→vs.map (·.1)=ks.map (fun p=>p.1.map kOf)→(∀p∈ks, ∀k∈p.1,adN k)→bh K F H (vs.map (·.2)) (ks.map (·.2)) fp→cU K F H (.ref a) (.dtt ks) (a::fp)
 |dn {a:Addr} {w:World} {es:List (NestedKey×Addr×V)} {ks:List (KB×D)}:bG.w=some w→H a=some (nkO w a es)→F a=none→es.map (·.1)=ks.map (fun p=>nkB p.1)→aY K F (es.map fun e=>V.ref e.2.1) (ks.map fun p=>lM p.1)→aY K F (es.map (·.2.2)) (ks.map (·.2))→cU K F H (.ref a) (.dn ks) [a]
 |hole {v:V}:cU K F H v .hole []
inductive bh(K:PySem.W.Frag)(F H:Hp):List V→List Tr→List Addr→Prop
 |nil:bh K F H [] [] []
 |cons {v:V} {t:Tr} {fp:List Addr} {vs:List V} {ts:List Tr} {fq:List Addr}:cU K F H v t fp→bh K F H vs ts fq→bh K F H (v::vs) (t::ts) (fp++fq)
end
mutual
theorem cU.hh{K:PySem.W.Frag}{F H F' H':Hp}(s:Same F F'): ∀{v:V} {t:Tr} {fp:List Addr},cU K F H v t fp→(∀a∈fp,H' a=H a∧F' a=none)→cU K F' H' v t fp
 |_,_,_, .sh r,_=> .sh (r.mono s)
 |_,_,_, .lst h n z q,m=> .lst (by rw [(m _ (by simp)).1];exact h) (m _ (by simp)).2 z (bh.hh s q fun b hb=>m b (List.mem_cons_of_mem _ hb))
 |_,_,_, .tup h n z q,m=> .tup (by rw [(m _ (by simp)).1];exact h) (m _ (by simp)).2 z (bh.hh s q fun b hb=>m b (List.mem_cons_of_mem _ hb))
 |_,_,_, .obj h n e q,m=> .obj (by rw [(m _ (by simp)).1];exact h) (m _ (by simp)).2 e (bh.hh s q fun b hb=>m b (List.mem_cons_of_mem _ hb))
 |_,_,_, .dct h n e k q,m=> .dct (by rw [(m _ (by simp)).1];exact h) (m _ (by simp)).2 e k (bh.hh s q fun b hb=>m b (List.mem_cons_of_mem _ hb))
 |_,_,_, .dtt h n e k q,m=> .dtt (by rw [(m _ (by simp)).1];exact h) (m _ (by simp)).2 e k (bh.hh s q fun b hb=>m b (List.mem_cons_of_mem _ hb))
 |_,_,_, .dn w h n k b r,m=> .dn w (by rw [(m _ (by simp)).1];exact h) (m _ (by simp)).2 k (b.mono s) (r.mono s)
 |_,_,_, .hole,_=> .hole
theorem bh.hh{K:PySem.W.Frag}{F H F' H':Hp}(s:Same F F'): ∀{vs:List V} {ts:List Tr} {fp:List Addr},bh K F H vs ts fp→(∀a∈fp,H' a=H a∧F' a=none)→bh K F' H' vs ts fp
 |_,_,_, .nil,_=> .nil
 |_,_,_, .cons h r,m=> .cons (cU.hh s h fun b hb=>m b (List.mem_append.mpr (.inl hb))) (bh.hh s r fun b hb=>m b (List.mem_append.mpr (.inr hb)))
end
mutual
theorem cU.none{K:PySem.W.Frag}{F H:Hp}: ∀{v:V} {t:Tr} {fp:List Addr},cU K F H v t fp→ ∀a∈fp,F a=Option.none∧H a≠Option.none
 |_,_,_, .sh r,a,m=>by cases m
 |_,_,_, .hole,a,m=>by cases m
 |_,_,_, .lst h n z q,a,m=>by
  rcases List.mem_cons.mp m with e|e
  ·subst e;exact ⟨n,by rw [h];simp⟩
  ·exact bh.none q a e
 |_,_,_, .tup h n z q,a,m=>by
  rcases List.mem_cons.mp m with e|e
  ·subst e;exact ⟨n,by rw [h];simp⟩
  ·exact bh.none q a e
 |_,_,_, .obj h n z q,a,m=>by
  rcases List.mem_cons.mp m with e|e
  ·subst e;exact ⟨n,by rw [h];simp⟩
  ·exact bh.none q a e
 |_,_,_, .dct h n z k q,a,m=>by
  rcases List.mem_cons.mp m with e|e
  ·subst e;exact ⟨n,by rw [h];simp⟩
  ·exact bh.none q a e
 |_,_,_, .dtt h n z k q,a,m=>by
  rcases List.mem_cons.mp m with e|e
  ·subst e;exact ⟨n,by rw [h];simp⟩
  ·exact bh.none q a e
 |_,_,_, .dn w h n k b r,a,m=>by
  rcases List.mem_cons.mp m with e|e
  ·subst e;exact ⟨n,by rw [h];simp⟩
  ·cases e
theorem bh.none{K:PySem.W.Frag}{F H:Hp}: ∀{vs:List V} {ts:List Tr} {fp:List Addr},bh K F H vs ts fp→ ∀a∈fp,F a=Option.none∧H a≠Option.none
 |_,_,_, .nil,a,m=>by cases m
 |_,_,_, .cons h r,a,m=>by
  rcases List.mem_append.mp m with e|e
  ·exact cU.none h a e
  ·exact bh.none r a e
end
mutual
theorem cU.nt{K:PySem.W.Frag}{F H:Hp}: ∀{v:V} {t:Tr} {fp:List Addr},cU K F H v t fp→ ∀a∈fp,NTb H a
 |_,_,_, .sh r,a,m=>by cases m
 |_,_,_, .hole,a,m=>by cases m
 |_,_,_, .lst h n z q,a,m=>by
  rcases List.mem_cons.mp m with e|e
  ·subst e;intro u hu;rw [h] at hu;cases hu;exact ⟨fun _ z=>(by cases z),fun _ _ z=>(by unfold LamX.CodeO at z;cases z)⟩
  ·exact bh.nt q a e
 |_,_,_, .tup h n z q,a,m=>by
  rcases List.mem_cons.mp m with e|e
  ·subst e;intro u hu;rw [h] at hu;cases hu;exact ⟨fun _ z=>(by cases z),fun _ _ z=>(by unfold LamX.CodeO at z;cases z)⟩
  ·exact bh.nt q a e
 |_,_,_, .obj h n z q,a,m=>by
  rcases List.mem_cons.mp m with e|e
  ·subst e;intro u hu;rw [h] at hu;cases hu;exact ⟨fun _ z=>(by cases z),fun _ _ z=>(by unfold LamX.CodeO at z;cases z)⟩
  ·exact bh.nt q a e
 |_,_,_, .dct h n z k q,a,m=>by
  rcases List.mem_cons.mp m with e|e
  ·subst e;intro u hu;rw [h] at hu;cases hu;exact ⟨fun _ z=>(by cases z),fun _ _ z=>(by unfold LamX.CodeO at z;cases z)⟩
  ·exact bh.nt q a e
 |_,_,_, .dtt h n z k q,a,m=>by
  rcases List.mem_cons.mp m with e|e
  ·subst e;intro u hu;rw [h] at hu;cases hu;exact ⟨fun _ z=>(by cases z),fun _ _ z=>(by unfold LamX.CodeO at z;cases z)⟩
  ·exact bh.nt q a e
 |_,_,_, .dn w h n k b r,a,m=>by
  rcases List.mem_cons.mp m with e|e
  ·subst e;intro u hu;rw [h] at hu;cases hu;exact ⟨fun _ z=>(by unfold nkO at z;cases z),fun _ _=>Qm⟩
  ·cases e
theorem bh.nt{K:PySem.W.Frag}{F H:Hp}: ∀{vs:List V} {ts:List Tr} {fp:List Addr},bh K F H vs ts fp→ ∀a∈fp,NTb H a
 |_,_,_, .nil,a,m=>by cases m
 |_,_,_, .cons h r,a,m=>by
  rcases List.mem_append.mp m with e|e
  ·exact cU.nt h a e
  ·exact bh.nt r a e
end
mutual
theorem cU.abk{K:PySem.W.Frag}{F H:Hp}: ∀{v:V} {t:Tr} {fp:List Addr},cU K F H v t fp→ ∀a∈fp, ∀od u,H a≠some (.frz od u)
 |_,_,_, .sh r,a,m=>by cases m
 |_,_,_, .hole,a,m=>by cases m
 |_,_,_, .lst h n z q,a,m=>by
  rcases List.mem_cons.mp m with e|e
  ·subst e;intro od u;rw [h];simp
  ·exact bh.abk q a e
 |_,_,_, .tup h n z q,a,m=>by
  rcases List.mem_cons.mp m with e|e
  ·subst e;intro od u;rw [h];simp
  ·exact bh.abk q a e
 |_,_,_, .obj h n z q,a,m=>by
  rcases List.mem_cons.mp m with e|e
  ·subst e;intro od u;rw [h];simp
  ·exact bh.abk q a e
 |_,_,_, .dct h n z k q,a,m=>by
  rcases List.mem_cons.mp m with e|e
  ·subst e;intro od u;rw [h];simp
  ·exact bh.abk q a e
 |_,_,_, .dtt h n z k q,a,m=>by
  rcases List.mem_cons.mp m with e|e
  ·subst e;intro od u;rw [h];simp
  ·exact bh.abk q a e
 |_,_,_, .dn w h n k b r,a,m=>by
  rcases List.mem_cons.mp m with e|e
  ·subst e;intro od u;rw [h];intro z;unfold nkO at z;cases z
  ·cases e
theorem bh.abk{K:PySem.W.Frag}{F H:Hp}: ∀{vs:List V} {ts:List Tr} {fp:List Addr},bh K F H vs ts fp→ ∀a∈fp, ∀od u,H a≠some (.frz od u)
 |_,_,_, .nil,a,m=>by cases m
 |_,_,_, .cons h r,a,m=>by
  rcases List.mem_append.mp m with e|e
  ·exact cU.abk h a e
  ·exact bh.abk r a e
end
theorem cU.ext{K:PySem.W.Frag}{F H F' H':Hp}{v:V}{t:Tr}{fp:List Addr}(x:Ext F H F' H')(h:cU K F H v t fp):cU K F' H' v t fp:=
 h.hh x.f fun a m=>by
  obtain ⟨n,hn⟩:=h.none a m
  refine ⟨?_,by rw [x.o a hn];exact n⟩
  cases e:H a with
  |none=>exact absurd e hn
  |some u=>exact x.h _ _ e (h.nt a m u e).1
theorem cU.t_{K:PySem.W.Frag}{F H:Hp}{v:V}{t:Tr}{fp:List Addr}{b:Addr}{u:HO}(h:cU K F H v t fp)(m:b∉fp):cU K F (L2.upd H b u) v t fp:=
 h.hh (.refl F) fun a ha=>⟨upd_ne fun e=>m (e ▸ ha),(h.none a ha).1⟩
theorem cU.abj{K:PySem.W.Frag}{F H:Hp}{v:V}{t:Tr}{fp:List Addr}{b:Addr}{u:HO}(nF:F b=Option.none)(h:cU K F H v t fp)(m:b∉fp):cU K (L2.upd F b u) H v t fp:=
 h.hh (aN nF) fun a ha=>⟨rfl,by
  have:L2.upd F b u a=F a:=upd_ne fun e=>m (by rw [←e];exact ha)
  rw [this];exact (h.none a ha).1⟩
inductive Sl where
 |no|sh (d:D)|ow (d:D)|bo (d:D)|dk (l:List (Tx×D))|nl (xs:List D)|gn (o:Option V) (t:Tr)|bg (t:Tr)
abbrev Rh:=List Sl
inductive lZ(K:PySem.W.Frag)(F:Hp):List (Key×V)→List (Tx×D)→Prop
 |nil:lZ K F [] []
 |cons {k:Tx} {v:V} {d:D} {vs:List (Key×V)} {ds:List (Tx×D)}:Rep K F (.str (aZ k)) (.str k)→Rep K F v d→lZ K F vs ds→lZ K F ((.inr (aZ k),v)::vs) ((k,d)::ds)
theorem lZ.mono{K:PySem.W.Frag}{F F':Hp}(e:Same F F'): ∀{vs:List (Key×V)} {ds:List (Tx×D)},lZ K F vs ds→lZ K F' vs ds
 |_,_, .nil=> .nil
 |_,_, .cons h1 h2 r=> .cons (h1.mono e) (h2.mono e) (r.mono e)
inductive jt(K:PySem.W.Frag)(F0 H0 F H:Hp):Option V→Sl→List Addr→Prop
 |no {x:Option V}:jt K F0 H0 F H x .no []
 |sh {v:V} {d:D}:Rep K F v d→jt K F0 H0 F H (some v) (.sh d) []
 |ow {v:V} {d:D} {fp:List Addr}:Own K F H v d fp→jt K F0 H0 F H (some v) (.ow d) fp
 |bo {v:V} {d:D}:jR K F0 H0 v d→jt K F0 H0 F H (some v) (.bo d) []
 |dk {a:Addr} {vs:List (Key×V)} {ds:List (Tx×D)}:H a=some (.dK vs)→lZ K F vs ds→F a=none→jt K F0 H0 F H (some (.ref a)) (.dk ds) [a]
 |nl {a:Addr} {vs:List V} {xs:List D} {fp:List Addr}:H a=some (.lst vs)→gU K F H vs xs fp→xs.length≤sizeLine→F a=none→jt K F0 H0 F H (some (.ref a)) (.nl xs) (a::fp)
 |gn {v:V} {t:Tr} {o:Option V} {fp:List Addr}:cU K F H v t fp→(∀w,o=some w→v=w)→jt K F0 H0 F H (some v) (.gn o t) fp
 |bg {v:V} {t:Tr} {fp:List Addr}:cU K F0 H0 v t fp→fp.Nodup→jt K F0 H0 F H (some v) (.bg t) []
inductive bB(K:PySem.W.Frag)(F0 H0 F H:Hp):St→Rh→List (List Addr)→Prop
 |nil:bB K F0 H0 F H [] [] []
 |cons {x:Option V} {s:Sl} {fp:List Addr} {σ:St} {ρ:Rh} {fps:List (List Addr)}:jt K F0 H0 F H x s fp→bB K F0 H0 F H σ ρ fps→bB K F0 H0 F H (x::σ) (s::ρ) (fp::fps)
theorem jt.ext{K:PySem.W.Frag}{F0 H0:Hp}{F H F' H':Hp}{x:Option V}{s:Sl}{fp:List Addr}(e:Ext F H F' H')(h:jt K F0 H0 F H x s fp):jt K F0 H0 F' H' x s fp:=by
 cases h with
 |no=>exact .no
 |sh h=>exact .sh (h.mono e.f)
 |ow h=>exact .ow (h.ext e)
 |bo h=>exact .bo h
 |dk h r n=>exact .dk (e.h _ _ h) (r.mono e.f) (by rw [e.o _ (by rw [h];simp)];exact n)
 |nl h q z n=>exact .nl (e.h _ _ h) (q.ext e) z (by rw [e.o _ (by rw [h];simp)];exact n)
 |gn h n=>exact .gn (h.ext e) n
 |bg h n=>exact .bg h n
theorem bB.ext{K:PySem.W.Frag}{F0 H0:Hp}{F H F' H':Hp}(e:Ext F H F' H'): ∀{σ:St} {ρ:Rh} {fps:List (List Addr)},bB K F0 H0 F H σ ρ fps→bB K F0 H0 F' H' σ ρ fps
 |_,_,_, .nil=> .nil
 |_,_,_, .cons h r=> .cons (h.ext e) (r.ext e)
theorem bB.length{K:PySem.W.Frag}{F0 H0:Hp}{F H:Hp}: ∀{σ:St} {ρ:Rh} {fps:List (List Addr)},bB K F0 H0 F H σ ρ fps→σ.length=ρ.length
 |_,_,_, .nil=>rfl
 |_,_,_, .cons h r=>by simp [bB.length r]
theorem bB.get{K:PySem.W.Frag}{F0 H0:Hp}{F H:Hp}: ∀{σ:St} {ρ:Rh} {fps:List (List Addr)} {i:Nat} {s:Sl},bB K F0 H0 F H σ ρ fps→ρ[i]? =some s→ ∃x fp,σ[i]? =some x∧fps[i]? =some fp∧jt K F0 H0 F H x s fp
 |_,_,_,_,_, .nil,e=>by simp at e
 |_,_,_,0,_, .cons h r,e=>by simp at e;subst e;exact ⟨_,_,rfl,rfl,h⟩
 |_,_,_,i+1,_, .cons h r,e=>by
  obtain ⟨x,fp,h1,h2,h3⟩:=bB.get (i:=i) r (by simpa using e)
  exact ⟨x,fp,by simpa using h1,by simpa using h2,h3⟩
theorem bB.set{K:PySem.W.Frag}{F0 H0:Hp}{F H:Hp}{x:Option V}{s:Sl}{fp:List Addr}(q:jt K F0 H0 F H x s fp): ∀{σ:St} {ρ:Rh} {fps:List (List Addr)} (i:Nat),bB K F0 H0 F H σ ρ fps→bB K F0 H0 F H (σ.set i x) (ρ.set i s) (fps.set i fp)
 |_,_,_,_, .nil=> .nil
 |_,_,_,0, .cons _ r=> .cons q r
 |_,_,_,i+1, .cons h r=> .cons h (r.set q i)
structure aoR(F0 H0:Hp)(fps:List (List Addr)):Prop where
 nd:fps.flatten.Nodup
 new: ∀a∈fps.flatten,H0 a=none
theorem gH: ∀(fps:List (List Addr)) (i:Nat),(fps.set i []).flatten.Sublist fps.flatten
 |[],_=>by simp
 |l::r,0=>by simp
 |l::r,i+1=>by simp only [List.set_cons_succ,List.flatten_cons];exact (List.Sublist.refl l).append (gH r i)
theorem aoR.set_nil{F0 H0:Hp}{fps:List (List Addr)}(h:aoR F0 H0 fps)(i:Nat):aoR F0 H0 (fps.set i []):=
 ⟨h.nd.sublist (gH fps i),fun a ha=>h.new a ((gH fps i).subset ha)⟩
structure bJ(K:PySem.W.Frag)(F0 H0 F H:Hp)(σ:St)(ρ:Rh)(fps:List (List Addr)):Prop where
 x:Ext F0 H0 F H
 s:bB K F0 H0 F H σ ρ fps
 p:aoR F0 H0 fps
 b:pK F H
theorem bJ.ext{K:PySem.W.Frag}{F0 H0 F H F' H':Hp}{σ:St}{ρ:Rh}{fps:List (List Addr)}(h:bJ K F0 H0 F H σ ρ fps)(e:Ext F H F' H'):bJ K F0 H0 F' H' σ ρ fps:=
 ⟨h.x.trans e,h.s.ext e,h.p,e.adP h.b⟩
theorem bJ.sm{K:PySem.W.Frag}{F0 H0 F H:Hp}{σ:St}{ρ:Rh}{fps:List (List Addr)}(h:bJ K F0 H0 F H σ ρ fps):Same F H∧pK F H:=⟨h.x.w,h.b⟩
abbrev DE:=Rh→(D→Prop)→Prop
abbrev DT:=Rh→(Bool→Prop)→Prop
abbrev DA:=Rh→(List D→Prop)→Prop
inductive sJ(K:PySem.W.Frag)(F H:Hp):List V→List D→Prop
 |nil:sJ K F H [] []
 |cons {v:V} {vs:List V} {d:D} {ds:List D}:jR K F H v d→sJ K F H vs ds→sJ K F H (v::vs) (d::ds)
theorem sJ.ext{K:PySem.W.Frag}{F H F' H':Hp}(x:Ext F H F' H'): ∀{v:List V} {d:List D},sJ K F H v d→sJ K F' H' v d
 |_,_, .nil=> .nil
 |_,_, .cons h r=> .cons (h.ext x) (r.ext x)
section
variable(K:PySem.W.Frag)(F0 H0:Hp)
def low(d:DE):TE:=fun σ H Q=> ∃F ρ fps P,bJ K F0 H0 F H σ ρ fps∧d ρ P∧ ∀x,P x→ ∀F' H' v,Ext F H F' H'→Rep K F' v x→Q v H'
def aoS(d:DE):TE:=fun σ H Q=> ∃F ρ fps P,bJ K F0 H0 F H σ ρ fps∧d ρ P∧ ∀x,P x→ ∀F' H' v,Ext F H F' H'→jR K F' H' v x→Q v H'
def Qo(d:DT):TT:=fun σ H Q=> ∃F ρ fps P,bJ K F0 H0 F H σ ρ fps∧d ρ P∧ ∀b,P b→ ∀F' H',Ext F H F' H'→Q b H'
def aDQ(d:DA):TA:=fun σ H Q=> ∃F ρ fps P,bJ K F0 H0 F H σ ρ fps∧d ρ P∧ ∀xs,P xs→ ∀F' H' vs,Ext F H F' H'→aY K F' vs xs→Q vs H'
def aty(d:DA):TA:=fun σ H Q=> ∃F ρ fps P,bJ K F0 H0 F H σ ρ fps∧d ρ P∧ ∀xs,P xs→ ∀F' H' vs,Ext F H F' H'→sJ K F' H' vs xs→Q vs H'
end
section
variable{X:Cx}{F0 H0:Hp}{e a b:Expr}{pos:Pos}
theorem peW{t t':TE}(h:PE X e t)(k: ∀σ H Q,t' σ H Q→t σ H Q):PE X e t':=⟨fun pins s σ H Q I q=>h.run pins s σ H Q I (k σ H Q q)⟩
theorem ptW{t t':TT}(h:PT X e t)(k: ∀σ H Q,t' σ H Q→t σ H Q):PT X e t':=⟨fun pins s σ H Q I q=>h.run pins s σ H Q I (k σ H Q q)⟩
theorem paW{es:List Expr}{t t':TA}(h:PA X es t)(k: ∀σ H Q,t' σ H Q→t σ H Q):PA X es t':=⟨fun pos pins s σ H Q I q=>h.run pos pins s σ H Q I (k σ H Q q)⟩
theorem psW{st:Stmt}{t t':TS}(h:PS X st t)(k: ∀D σ H,t' D σ H→t D σ H):PS X st t':=⟨fun pins s σ H D I q=>h.run pins s σ H D I (k D σ H q)⟩
theorem aiM{st:List Stmt}{t t':TS}(h:PSs X st t)(k: ∀D σ H,t' D σ H→t D σ H):PSs X st t':=⟨fun pins s σ H D I q=>h.run pins s σ H D I (k D σ H q)⟩
theorem piW{tg it:Expr}{t t':TI}(h:PI X tg it t)(k: ∀σ H R,t' σ H R→t σ H R):PI X tg it t':=⟨fun pins s σ H R I q=>h.run pins s σ H R I (k σ H R q)⟩
abbrev LE(X:Cx)(F0 H0:Hp)(e:Expr)(d:DE):Prop:=PE X e (low X.K F0 H0 d)
abbrev LB(X:Cx)(F0 H0:Hp)(e:Expr)(d:DE):Prop:=PE X e (aoS X.K F0 H0 d)
abbrev LT(X:Cx)(F0 H0:Hp)(e:Expr)(d:DT):Prop:=PT X e (Qo X.K F0 H0 d)
abbrev LA(X:Cx)(F0 H0:Hp)(e:List Expr)(d:DA):Prop:=PA X e (aDQ X.K F0 H0 d)
abbrev LAB(X:Cx)(F0 H0:Hp)(e:List Expr)(d:DA):Prop:=PA X e (aty X.K F0 H0 d)
theorem lb{d:DE}(h:LE X F0 H0 e d):LB X F0 H0 e d:=peW h fun σ H Q ⟨F,ρ,fps,P,E,q,k⟩=>⟨F,ρ,fps,P,E,q,fun x px F' H' v e r=>k x px F' H' v e (.inl r)⟩
def aA(i:Nat):DE:=fun ρ P=>match ρ[i]? with|some (.sh d)=>P d|_=>False
def aq(i:Nat):DE:=fun ρ P=>match ρ[i]? with|some (.sh d)=>P d|some (.ow d)=>Qn d∧P d|some (.bo d)=>P d|_=>False
theorem ao{i:Nat}(h:PE X e (tVar i)):LE X F0 H0 e (aA i):=peW h fun σ H Q ⟨F,ρ,fps,P,E,q,k⟩=>by
 unfold aA at q
 cases hs:ρ[i]? with
 |none=>rw [hs] at q;exact q.elim
 |some s=>
  rw [hs] at q
  cases s with
  |sh d=>
   obtain ⟨x,fp,h1,_,h3⟩:=E.s.get hs
   cases h3 with
   |sh r=>exact ⟨_,h1,k d q F H _ (.refl E.x.w) r⟩
  |_=>exact q.elim
theorem ak{i:Nat}(h:PE X e (tVar i)):LB X F0 H0 e (aq i):=peW h fun σ H Q ⟨F,ρ,fps,P,E,q,k⟩=>by
 unfold aq at q
 cases hs:ρ[i]? with
 |none=>rw [hs] at q;exact q.elim
 |some s=>
  rw [hs] at q
  cases s with
  |no=>exact q.elim
  |sh d=>
   obtain ⟨x,fp,h1,_,h3⟩:=E.s.get hs
   cases h3 with
   |sh r=>exact ⟨_,h1,k d q F H _ (.refl E.x.w) (.inl r)⟩
  |ow d=>
   obtain ⟨x,fp,h1,_,h3⟩:=E.s.get hs
   cases h3 with
   |ow r=>exact ⟨_,h1,k d q.2 F H _ (.refl E.x.w) (.inr ⟨fp,r,q.1⟩)⟩
  |bo d=>
   obtain ⟨x,fp,h1,_,h3⟩:=E.s.get hs
   cases h3 with
   |bo r=>exact ⟨_,h1,k d q F H _ (.refl E.x.w) (r.ext E.x)⟩
  |dk l=>exact q.elim
  |nl l=>exact q.elim
  |gn o t=>exact q.elim
  |bg t=>exact q.elim
def dC(d:D):DE:=fun _ P=>P d
theorem ahC{v:V}{d:D}(h:PE X e (tC v))(r: ∀F:Hp,Rep X.K F v d):LE X F0 H0 e (dC d):=peW h fun σ H Q ⟨F,ρ,fps,P,E,q,k⟩=>k d q F H _ (.refl E.x.w) (r F)
theorem aD{i j pos}:LE X F0 H0 (.Constant (.int i) j pos) (dC (.int i)):=ahC pe_int fun _=> .int i
theorem qZ{i j pos}:LE X F0 H0 (.Constant (.bool i) j pos) (dC (.bl i)):=ahC pe_bl fun _=> .bl i
theorem Ax{j pos}:LE X F0 H0 (.Constant .none j pos) (dC .non):=ahC pe_non fun _=> .non
theorem aoT{K:PySem.W.Frag}{F:Hp}{x:Str}{l:Tx}(h:lY x=l)(hl:l.length≤sizeLine)(ho:oF l=true):Rep K F (.str x) (.str l):=by
 subst h
 have:=Rep.str (K:=K) (F:=F) (lY x) hl ho
 rw [vJ] at this
 exact this
theorem cY{x:Str}{l:Tx}{j pos}(h:lY x=l)(hl:(decide (l.length≤1000)&&oF l)=true:=by decide):LE X F0 H0 (.Constant (.str x) j pos) (dC (.str l)):=
 ahC pe_str fun _=>by
  simp only [Bool.and_eq_true,decide_eq_true_eq] at hl
  exact aoT h (Nat.le_trans hl.1 (by decide)) hl.2
abbrev DR2:=D→D→(D→Prop)→Prop
def j8(K:PySem.W.Frag)(r:R2)(d:DR2):Prop:= ∀(F H:Hp) v w x y (P:D→Prop) (Q:VK),Same F H→jR K F H v x→jR K F H w y→d x y P→(∀z,P z→ ∀F' H' u,Ext F H F' H'→Rep K F' u z→Q u H')→r v w H Q
def dOp(d:DR2)(da db:DE):DE:=fun ρ P=>da ρ fun x=>db ρ fun y=>d x y P
theorem Zt{r:R2}{d:DR2}{da db:DE}(hr:j8 X.K r d): ∀σ H Q,low X.K F0 H0 (dOp d da db) σ H Q→tOp r (aoS X.K F0 H0 da) (aoS X.K F0 H0 db) σ H Q:=fun σ H Q ⟨F,ρ,fps,P,E,q,k⟩=>
 ⟨F,ρ,fps,_,E,q,fun x hx F1 H1 v e1 r1=>⟨F1,ρ,fps,_,E.ext e1,hx,fun y hy F2 H2 w e2 r2=>hr F2 H2 v w x y P Q e2.w (r1.ext e2) r2 hy fun z pz F3 H3 u e3 r3=>k z pz F3 H3 u ((e1.trans e2).trans e3) r3⟩⟩
theorem Cz{op:Operator}{r:R2}{d:DR2}{da db:DE}(hr:j8 X.K r d)(ho:OpR X (binaryOp op) r)(ha:LB X F0 H0 a da)(hb:LB X F0 H0 b db):LE X F0 H0 (.BinOp a op b pos) (dOp d da db):=
 peW (pe_op ho ha hb) (Zt hr)
theorem avq{op:CmpOp}{r:R2}{d:DR2}{da db:DE}(hr:j8 X.K r d)(ho:OpR X (compareOp op) r)(ha:LB X F0 H0 a da)(hb:LB X F0 H0 b db)(hm:behindInMarks op b=false):LE X F0 H0 (.Compare a [op] [b] pos) (dOp d da db):=
 peW (pe_cmpR ho ha hb hm) (Zt hr)
end
end DL
end
section
namespace DL
open PySem L2
variable[bG]
section
variable{K:PySem.W.Frag}{F H F' H':Hp}
theorem jR.int{v:V}{i:Int}(h:jR K F H v (.int i)):v= .int i:=by
 rcases h with h|⟨fp,h,nt⟩<;>cases h;rfl
theorem jR.bl{v:V}{i:Bool}(h:jR K F H v (.bl i)):v= .bl i:=by
 rcases h with h|⟨fp,h,nt⟩<;>cases h;rfl
theorem jR.non{v:V}(h:jR K F H v .non):v= .non:=by
 rcases h with h|⟨fp,h,nt⟩<;>cases h;rfl
theorem jR.str{v:V}{i:Tx}(h:jR K F H v (.str i)):v= .str (aZ i)∧i.length≤sizeLine∧oF i=true:=by
 rcases h with h|⟨fp,h,nt⟩
 ·cases h with
  |str _ z g=>exact ⟨rfl,z,g⟩
 ·cases h
theorem jR.lst{v:V}{xs:List D}(e:Same F H)(h:jR K F H v (.lst xs)): ∃a vs,v= .ref a∧SqL K H a vs∧aY K F vs xs∧xs.length≤sizeLine:=by
 rcases h with h|⟨fp,h,nt⟩
 ·cases h with
  |lst s z r=>exact ⟨_,_,rfl,e.seq s,r,z⟩
 ·cases h with
  |lst s r z n=>exact ⟨_,_,rfl, .of s,r,z⟩
theorem jR.tup{v:V}{xs:List D}(e:Same F H)(h:jR K F H v (.tup xs)): ∃a vs,v= .ref a∧SqT K H a vs∧aY K F vs xs∧xs.length≤sizeLine:=by
 rcases h with h|⟨fp,h,nt⟩
 ·cases h with
  |tup s z r=>exact ⟨_,_,rfl,cD e s,r,z⟩
 ·exact nt.elim
theorem jR.obj{v:V}{C:Addr}{gs:List (Str×D)}(e:Same F H)(h:jR K F H v (.obj C gs)): ∃a dx fs,v= .ref a∧H a=some (.ins C dx fs)∧jN K F fs gs:=by
 rcases h with h|⟨fp,h,nt⟩
 ·cases h with
  |obj s r=>exact ⟨_,_,_,rfl,e _ _ s,r⟩
 ·cases h with
  |obj s r n=>exact ⟨_,_,_,rfl,s,r⟩
theorem rA{p:Addr}{vs:List V}{xs:List D}(e:Same F H)(np:H p=none)(r:aY K F vs xs)(z:xs.length≤sizeLine):Rep K (upd F p (.lst vs)) (.ref p) (.lst xs):=
 .lst (.of upd_same) z (r.mono (aN (e.free np)))
theorem rB{p:Addr}{vs:List V}{xs:List D}(e:Same F H)(np:H p=none)(r:aY K F vs xs)(z:xs.length≤sizeLine):Rep K (upd F p (.tup vs)) (.ref p) (.tup xs):=
 .tup (.of upd_same) z (r.mono (aN (e.free np)))
end
section
variable{X:Cx}
theorem aoU:OpR X (binaryOp .Add) (fun x y H Q=> ∃l b xs zs,x= .ref l∧y= .ref b∧SqL X.K H l xs∧SqL X.K H b zs∧xs.length+zs.length≤sizeLine∧ ∀p,H p=none→Q (.ref p) (upd H p (.lst (xs++zs)))):=by
 intro pins s σ H x y v u Q I rx ry h
 obtain ⟨l,b,xs,zs,rfl,rfl,hH,hB,hz,q⟩:=h
 cases rx
 cases ry
 obtain ⟨its,r,pl,z⟩:=I.list hH
 obtain ⟨its2,r2,pl2,z2⟩:=I.list hB
 obtain ⟨⟨cls,dd,data,sl⟩,ho,hc,n,hd⟩:=pl.isList
 obtain ⟨⟨cls2,dd2,data2,sl2⟩,ho2,hc2,n2,hd2⟩:=pl2.isList
 simp only at hc hd hc2 hd2
 subst hc hd hc2 hd2
 have e1:=r.length
 have e2:=r2.length
 refine PySem.concat_meets ⟨_,ho,rfl⟩ ⟨_,ho2,rfl⟩ PySem.noFill_list_add PySem.seq_list_add PySem.F.slot_list_add PySem.F.entry_list_add (PySem.F.args_list_add_2 _ _) (PyProof.Rows.list_addW l b its.toArray its2.toArray n n2 dd dd2 sl sl2 (by simp;omega)) ⟨ho,ho2, ?_⟩
 have ea:its.toArray++its2.toArray=(its++its2).toArray:=by simp
 rw [ea]
 exact ⟨.ref _,_,I.lnew (t':=s.toks) (r.append r2) (by rw [List.length_append];omega),rfl,q _ I.fresh⟩
theorem Qp(a b:Tx):oF (a++b)=(oF a&&oF b):=by simp [oF,List.all_append]
def fH:DR2
 | .int i, .int j,P=>P (.int (i+j))
 | .str a, .str b,P=>a.length+b.length≤sizeLine∧P (.str (a++b))
 | .lst a, .lst b,P=>a.length+b.length≤sizeLine∧P (.lst (a++b))
 |_,_,_=>False
theorem ahD(a b:Tx):aZ a++aZ b=aZ (a++b):=TL.ext_tl (by rw [TL.tl_append];rfl)
theorem ju(a:Tx):(aZ a).length=a.length:=by rw [TL.len_tl];rfl
abbrev afi(K:PySem.W.Frag):R2:=fun x y H Q=>(∃i j,x= .int i∧y= .int j∧Q (.int (i+j)) H)∨((∃i j,x= .str i∧y= .str j∧i.length+j.length≤sizeLine∧Q (.str (i++j)) H)∨
 (∃l b xs zs,x= .ref l∧y= .ref b∧SqL K H l xs∧SqL K H b zs∧xs.length+zs.length≤sizeLine∧ ∀p,H p=none→Q (.ref p) (upd H p (.lst (xs++zs)))))
theorem ahE:OpR X (binaryOp .Add) (afi X.K):=OpR.or op_add (OpR.or op_add_str aoU)
theorem aoV{K:PySem.W.Frag}:j8 K (afi K) fH:=by
 intro F H v w x y P Q e bx byy d k
 unfold fH at d
 split at d
 ·rename_i i j
  exact .inl ⟨i,j,bx.int,byy.int,k _ d F H _ (.refl e) (.int _)⟩
 ·rename_i a b
  obtain ⟨rfl,ha,ga⟩:=bx.str
  obtain ⟨rfl,hb,gb⟩:=byy.str
  refine .inr (.inl ⟨_,_,rfl,rfl,by rw [ju,ju];exact d.1,k _ d.2 F H _ (.refl e) ?_⟩)
  rw [ahD]
  exact .str _ (by rw [List.length_append];exact d.1) (by rw [Qp,ga,gb];rfl)
 ·rename_i a b
  obtain ⟨l,vs,rfl,h1,r1,z1⟩:=bx.lst e
  obtain ⟨m,ws,rfl,h2,r2,z2⟩:=byy.lst e
  refine .inr (.inr ⟨_,_,vs,ws,rfl,rfl,h1,h2,by rw [r1.length,r2.length];exact d.1,fun p hp=> ?_⟩)
  exact k _ d.2 _ _ _ (.new e hp) (rA e hp (r1.append r2) (by rw [List.length_append];exact d.1))
 ·exact d.elim
def Mh:DR2
 | .int i, .int j,P=>P (.int (i - j))
 |_,_,_=>False
theorem aoW{K:PySem.W.Frag}:j8 K (rI0 fun i j=> .int (i - j)) Mh:=by
 intro F H v w x y P Q e bx byy d k
 unfold Mh at d
 split at d
 ·rename_i i j
  exact ⟨i,j,bx.int,byy.int,k _ d F H _ (.refl e) (.int _)⟩
 ·exact d.elim
def abl:DR2
 | .int i, .int j,P=>(i.natAbs<18446744073709551616∨j.natAbs<18446744073709551616)∧P (.int (i*j))
 |_,_,_=>False
theorem aoX{K:PySem.W.Frag}:j8 K (rI CMul fun i j=> .int (i*j)) abl:=by
 intro F H v w x y P Q e bx byy d k
 unfold abl at d
 split at d
 ·rename_i i j
  refine ⟨i,j,bx.int,byy.int, ?_,k _ d.2 F H _ (.refl e) (.int _)⟩
  rcases d.1 with h|h
  ·exact .inl (by omega)
  ·exact .inr (by omega)
 ·exact d.elim
def mX:DR2
 | .int i, .int j,P=>0<j∧P (.int (i%j))
 |_,_,_=>False
theorem aoY{K:PySem.W.Frag}:j8 K (rI (fun _ j=>0<j) fun i j=> .int (i%j)) mX:=by
 intro F H v w x y P Q e bx byy d k
 unfold mX at d
 split at d
 ·rename_i i j
  exact ⟨i,j,bx.int,byy.int,d.1,k _ d.2 F H _ (.refl e) (.int _)⟩
 ·exact d.elim
def sO:DR2
 | .int i, .int j,P=>(0<j∧j<1073741824)∧P (.int (i / j))
 |_,_,_=>False
theorem aiN{K:PySem.W.Frag}:j8 K (rI CDiv fun i j=> .int (i / j)) sO:=by
 intro F H v w x y P Q e bx byy d k
 unfold sO at d
 split at d
 ·rename_i i j
  exact ⟨i,j,bx.int,byy.int,d.1,k _ d.2 F H _ (.refl e) (.int _)⟩
 ·exact d.elim
def aiO:DR2
 | .int i, .int j,P=>(0≤j∧j≤1000000∧i.natAbs<2 ^ 64)∧P (.int (i ^ j.toNat))
 |_,_,_=>False
theorem aoZ{K:PySem.W.Frag}:j8 K (rI CPow fun i j=> .int (i ^ j.toNat)) aiO:=by
 intro F H v w x y P Q e bx byy d k
 unfold aiO at d
 split at d
 ·rename_i i j
  exact ⟨i,j,bx.int,byy.int,d.1,k _ d.2 F H _ (.refl e) (.int _)⟩
 ·exact d.elim
mutual
def bu:D→Bool
 | .non=>true
 | .int _=>true
 | .str _=>true
 | .lst xs=>eY xs
 | .tup xs=>eY xs
 |_=>false
def eY:List D→Bool
 |[]=>true
 |x::xs=>bu x&&eY xs
end
mutual
def fL:D→Nat
 | .lst xs=>jT xs+1
 | .tup xs=>jT xs+1
 |_=>0
def jT:List D→Nat
 |[]=>0
 |x::xs=>max (fL x) (jT xs)
end
mutual
def mW:D→PyData
 | .int i=> .int i
 | .str x=> .str (aZ x)
 | .lst xs=> .list (j9 xs)
 | .tup xs=> .tuple (j9 xs)
 | .bl b=> .bool b
 |_=> .none
def j9:List D→List PyData
 |[]=>[]
 |x::xs=>mW x::j9 xs
end
noncomputable def eqD(x y:D):Bool:= @decide (x=y) (Classical.propDecidable _)
theorem Qq{x y:D}(h:x=y):eqD x y=true:=by simp [eqD,h]
theorem ahF{x y:D}(h:x≠y):eqD x y=false:=by simp [eqD,h]
theorem xm{x y:D}{p:Prop}[Decidable p](h:x=y↔p):eqD x y=decide p:=by
 by_cases q:p
 ·rw [decide_eq_true q,Qq (h.mpr q)]
 ·rw [decide_eq_false q,ahF (fun z=>q (h.mp z))]
mutual
theorem CG: ∀(x y:D),bu x=true→bu y=true→PyData.eqv (mW x) (mW y)=eqD x y
 | .non,y,_,hy=>by cases y<;>simp [bu] at hy<;>simp [mW,PyData.eqv,eqD]
 | .int i,y,_,hy=>by
  cases y<;>simp [bu] at hy<;>simp [mW,PyData.eqv,eqD]
  rename_i j
  by_cases h:i=j<;>simp [h]
 | .str i,y,_,hy=>by
  cases y<;>simp [bu] at hy<;>simp [mW,PyData.eqv,eqD]
  rename_i j
  by_cases h:i=j
  ·simp [h]
  ·have: ¬aZ i=aZ j:=fun q=>h (uE q)
   simp [h,this]
 | .lst xs,y,hx,hy=>by
  cases y<;>simp [bu] at hy<;>simp [mW,PyData.eqv,eqD]
  rename_i ys
  simp [bu] at hx
  rw [Hq xs ys hx hy]
  by_cases h:xs=ys<;>simp [h]
 | .tup xs,y,hx,hy=>by
  cases y<;>simp [bu] at hy<;>simp [mW,PyData.eqv,eqD]
  rename_i ys
  simp [bu] at hx
  rw [Hq xs ys hx hy]
  by_cases h:xs=ys<;>simp [h]
 | .bl _,_,hx,_=>by simp [bu] at hx
 | .ty _,_,hx,_=>by simp [bu] at hx
 | .fn _,_,hx,_=>by simp [bu] at hx
 | .obj _ _,_,hx,_=>by simp [bu] at hx
theorem Hq: ∀(x y:List D),eY x=true→eY y=true→PyData.eqvAll (j9 x) (j9 y)= @decide (x=y) (Classical.propDecidable _)
 |[],[],_,_=>by simp [j9,PyData.eqvAll]
 |[],_::_,_,_=>by simp [j9,PyData.eqvAll]
 |_::_,[],_,_=>by simp [j9,PyData.eqvAll]
 |x::xs,y::ys,hx,hy=>by
  simp [eY] at hx hy
  simp only [j9,PyData.eqvAll]
  rw [CG x y hx.1 hy.1,Hq xs ys hx.2 hy.2]
  by_cases h:x=y
  ·subst h
   by_cases g:xs=ys
   ·subst g;simp [eqD]
   ·simp [eqD,g]
  ·simp [eqD,h]
end
theorem abm{x:Tx}(h:oF x=true):PyData.strOk (aZ x)=true:=by
 unfold PyData.strOk
 simp only [oF,List.all_eq_true,decide_eq_true_eq] at h
 simp [aZ]
 intro i hi
 have:=h i hi
 omega
mutual
theorem aiP{K:PySem.W.Frag}{F:Hp}: ∀(d:D) {v:V},Rep K F v d→bu d=true→Dp K F v (mW d)∧(mW d).canLay0=true∧(mW d).depth=fL d
 | .non,_,r,_=>by cases r;exact ⟨.non,by simp [mW,PyData.canLay0,PyData.depth,fL]⟩
 | .int i,_,r,_=>by cases r;exact ⟨.int i,by simp [mW,PyData.canLay0,PyData.depth,fL]⟩
 | .str x,_,r,_=>by cases r with|str _ z g=>exact ⟨.str _,by simp [mW,PyData.canLay0,PyData.depth,fL,abm g]⟩
 | .lst xs,_,r,h=>by
  simp [bu] at h
  cases r with
  |lst s z r=>
   have:=Zu xs r h
   exact ⟨.lst s this.1,by simp [mW,PyData.canLay0,PyData.depth,fL,this.2.1,this.2.2]⟩
 | .tup xs,_,r,h=>by
  simp [bu] at h
  cases r with
  |tup s z r=>
   have:=Zu xs r h
   exact ⟨.tup s this.1,by simp [mW,PyData.canLay0,PyData.depth,fL,this.2.1,this.2.2]⟩
 | .bl _,_,_,hx=>by simp [bu] at hx
 | .ty _,_,_,hx=>by simp [bu] at hx
 | .fn _,_,_,hx=>by simp [bu] at hx
 | .obj _ _,_,_,hx=>by simp [bu] at hx
theorem Zu{K:PySem.W.Frag}{F:Hp}: ∀(d:List D) {v:List V},aY K F v d→eY d=true→DpAll K F v (j9 d)∧PyData.canLayAll0 (j9 d)=true∧PyData.depthAll (j9 d)=jT d
 |[],_,r,_=>by cases r;exact ⟨.nil,by simp [j9,PyData.canLayAll0,PyData.depthAll,jT]⟩
 |x::xs,_,r,h=>by
  simp [eY] at h
  cases r with
  |cons a b=>
   have h1:=aiP x a h.1
   have h2:=Zu xs b h.2
   exact ⟨.cons h1.1 h2.1,by simp [j9,PyData.canLayAll0,PyData.depthAll,jT,h1.2.1,h1.2.2,h2.2.1,h2.2.2]⟩
end
theorem sS{K:PySem.W.Frag}{F H:Hp}(e:Same F H){d:D}{v:V}(r:jR K F H v d)(h:bu d=true)(hd:fL d≤60):Dp K H v (mW d)∧SeqAt.shaped (mW d)=true:=by
 have fin: ∀G v,Rep K G v d→Dp K G v (mW d)∧SeqAt.shaped (mW d)=true:=fun G v r=>by
  have:=aiP d r h
  refine ⟨this.1, ?_⟩
  unfold SeqAt.shaped
  rw [this.2.1,this.2.2]
  simp
  omega
 rcases r with r|⟨fp,r,nt⟩
 ·exact fin H v (r.mono e)
 ·cases r with
  |lst s r z n=>exact fin H _ (.lst (.of s) z (r.mono e))
  |obj s r n=>simp [bu] at h
  |tup s q z n=>exact nt.elim
  |dct s k o r n=>simp [bu] at h
  |nct w s k b r n=>simp [bu] at h
def dEq:DR2
 | .bl i, .bl j,P=>P (.bl (i==j))
 |x,y,P=>(bu x=true∧fL x≤60)∧(bu y=true∧fL y≤60)∧P (.bl (eqD x y))
def dNe:DR2
 | .bl i, .bl j,P=>P (.bl (!(i==j)))
 |x,y,P=>(bu x=true∧fL x≤60)∧(bu y=true∧fL y≤60)∧P (.bl (!eqD x y))
abbrev aiQ(K:PySem.W.Frag):R2:=fun x y H Q=>rEq x y H Q∨rEqD K x y H Q
abbrev aiR(K:PySem.W.Frag):R2:=fun x y H Q=>rNe x y H Q∨rNeD K x y H Q
theorem aiS(hu:X.A.units+64<cLine):OpR X (compareOp .Eq) (aiQ X.K):=OpR.or op_eq (op_eqD hu)
theorem aiT(hu:X.A.units+64<cLine):OpR X (compareOp .NotEq) (aiR X.K):=OpR.or op_ne (op_neD hu)
theorem avr{K:PySem.W.Frag}:j8 K (aiQ K) dEq:=by
 intro F H v w x y P Q e bx byy d k
 unfold dEq at d
 split at d
 ·rename_i i j
  refine .inl ⟨by rw [bx.bl,byy.bl];rfl,k _ d F H _ (.refl e) ?_⟩
  rw [bx.bl,byy.bl,dec_bl]
  exact .bl _
 ·have h1:=sS e bx d.1.1 d.1.2
  have h2:=sS e byy d.2.1.1 d.2.1.2
  refine .inr ⟨_,_,h1.1,h2.1,h1.2,h2.2,k _ d.2.2 F H _ (.refl e) ?_⟩
  rw [CG _ _ d.1.1 d.2.1.1]
  exact .bl _
theorem avs{K:PySem.W.Frag}:j8 K (aiR K) dNe:=by
 intro F H v w x y P Q e bx byy d k
 unfold dNe at d
 split at d
 ·rename_i i j
  refine .inl ⟨by rw [bx.bl,byy.bl];rfl,k _ d F H _ (.refl e) ?_⟩
  rw [bx.bl,byy.bl,dec_bl]
  exact .bl _
 ·have h1:=sS e bx d.1.1 d.1.2
  have h2:=sS e byy d.2.1.1 d.2.1.2
  refine .inr ⟨_,_,h1.1,h2.1,h1.2,h2.2,k _ d.2.2 F H _ (.refl e) ?_⟩
  rw [CG _ _ d.1.1 d.2.1.1]
  exact .bl _
def dIC(f:Int→Int→Bool):DR2
 | .int i, .int j,P=>P (.bl (f i j))
 |_,_,_=>False
theorem Zv{K:PySem.W.Frag}{f:Int→Int→Bool}:j8 K (rI0 fun i j=> .bl (f i j)) (dIC f):=by
 intro F H v w x y P Q e bx byy d k
 unfold dIC at d
 split at d
 ·rename_i i j
  exact ⟨i,j,bx.int,byy.int,k _ d F H _ (.refl e) (.bl _)⟩
 ·exact d.elim
abbrev dLt:DR2:=dIC fun i j=>decide (i<j)
abbrev dLe:DR2:=dIC fun i j=>decide (i≤j)
abbrev dGt:DR2:=dIC fun i j=>decide (j<i)
abbrev dGe:DR2:=dIC fun i j=>decide (j≤i)
def sU:D→Bool
 | .non=>true
 |_=>false
def Hr(neg:Bool):DR2
 |x, .non,P=>P (.bl (if neg then !sU x else sU x))
 |_,_,_=>False
theorem abn{K:PySem.W.Frag}{F H:Hp}{v:V}{x:D}(b:jR K F H v x):decide (v= .non)=sU x:=by
 rcases b with b|⟨fp,b,nt⟩<;>cases b<;>simp [sU]
theorem ao0{K:PySem.W.Frag}:j8 K (fun x y H Q=>y= .non∧Q (.bl (decide (x= .non))) H) (Hr false):=by
 intro F H v w x y P Q e bx byy d k
 unfold Hr at d
 split at d
 ·refine ⟨byy.non,k _ d F H _ (.refl e) ?_⟩
  rw [abn bx]
  exact .bl _
 ·exact d.elim
theorem aiU{K:PySem.W.Frag}:j8 K (fun x y H Q=>y= .non∧Q (.bl (!decide (x= .non))) H) (Hr true):=by
 intro F H v w x y P Q e bx byy d k
 unfold Hr at d
 split at d
 ·refine ⟨byy.non,k _ d F H _ (.refl e) ?_⟩
  rw [abn bx]
  exact .bl _
 ·exact d.elim
end
end DL
end
section
namespace DL
open PySem L2
variable[bG]
section
variable{X:Cx}{F0 H0:Hp}{e a b c:Expr}{pos:Pos}
abbrev DR1:=D→(D→Prop)→Prop
def aiV(K:PySem.W.Frag)(r:V→Hp→VK→Prop)(d:DR1):Prop:= ∀(F H:Hp) v x (P:D→Prop) (Q:VK),Same F H→jR K F H v x→d x P→(∀z,P z→ ∀F' H' u,Ext F H F' H'→Rep K F' u z→Q u H')→r v H Q
def dUn(d:DR1)(da:DE):DE:=fun ρ P=>da ρ fun x=>d x P
theorem avt{r:V→Hp→VK→Prop}{d:DR1}{da:DE}(hr:aiV X.K r d): ∀σ H Q,low X.K F0 H0 (dUn d da) σ H Q→tUn r (aoS X.K F0 H0 da) σ H Q:=fun σ H Q ⟨F,ρ,fps,P,E,q,k⟩=>
 ⟨F,ρ,fps,_,E,q,fun x hx F1 H1 v e1 r1=>hr F1 H1 v x P Q e1.w r1 hx fun z pz F3 H3 u e3 r3=>k z pz F3 H3 u (e1.trans e3) r3⟩
def Mi:DR1
 | .int i,P=>P (.int (-i))
 |_,_=>False
theorem ao1{K:PySem.W.Frag}:aiV K (rU fun i=> .int (-i)) Mi:=by
 intro F H v x P Q e bx d k
 unfold Mi at d
 split at d
 ·exact ⟨_,bx.int,k _ d F H _ (.refl e) (.int _)⟩
 ·exact d.elim
theorem xr{da:DE}(ha:LB X F0 H0 a da):LE X F0 H0 (.UnaryOp .USub a pos) (dUn Mi da):=peW (pe_un un_neg ha) (avt ao1)
def cW(da:DE):DT:=fun ρ P=>da ρ fun x=>match x with| .bl k=>P k|_=>False
theorem afj{t:TE}{da:DE}(h: ∀σ H Q,low X.K F0 H0 da σ H Q→t σ H Q): ∀σ H Q,Qo X.K F0 H0 (cW da) σ H Q→t σ H fun x H'=> ∃k,x= .bl k∧Q k H':=fun σ H Q ⟨F,ρ,fps,P,E,q,k⟩=>
 h σ H _ ⟨F,ρ,fps,_,E,q,fun x hx F1 H1 v e1 r1=>by
  cases x<;>first|exact hx.elim|skip
  cases r1
  exact ⟨_,rfl,k _ hx F1 H1 e1⟩⟩
theorem avu{op:CmpOp}{r:R2}{d:DR2}{da db:DE}(hr:j8 X.K r d)(ho:OpR X (compareOp op) r)(ha:LB X F0 H0 a da)(hb:LB X F0 H0 b db)(hm:behindInMarks op b=false):LT X F0 H0 (.Compare a [op] [b] pos) (cW (dOp d da db)):=
 ptW (pt_cmpR ho ha hb hm) (afj (Zt hr))
theorem vK{da:DE}(h:LE X F0 H0 e da)(he: ∀whole,isTrue e X.env whole=(do let v←whole;standAt e.pos;holding [v] (truthy v)):=by intro _;rfl):LT X F0 H0 e (cW da):=
 ptW (pt_val h he) (afj fun _ _ _ q=>q)
def abo:D→Option Bool
 | .non=>some false
 | .bl k=>some k
 | .int i=>some (i !=0)
 | .str z=>some (!z.isEmpty)
 | .lst z=>some (!z.isEmpty)
 | .tup z=>some (!z.isEmpty)
 |_=>none
def aAj(da:DE):DT:=fun ρ P=>da ρ fun x=>match abo x with|some k=>P k|none=>False
def sV(da db:DT):DT:=fun ρ P=>da ρ fun k=>if k=true then db ρ P else P false
def V5(da db:DT):DT:=fun ρ P=>da ρ fun k=>if k=true then P true else db ρ P
def Qs(da:DT):DT:=fun ρ P=>da ρ fun k=>P (!k)
theorem pwW{t t':TT}(h:PW X e t)(k: ∀σ H Q,t' σ H Q→t σ H Q):PW X e t':=⟨fun wh pins s σ H Q I q=>h.run wh pins s σ H Q I (k σ H Q q)⟩
abbrev LW(X:Cx)(F0 H0:Hp)(e:Expr)(d:DT):Prop:=PW X e (Qo X.K F0 H0 d)
theorem mY{da:DT}(ha:LT X F0 H0 a da):LW X F0 H0 (.BoolOp .And [a] pos) da:=pw_and1 ha
theorem Ht{da:DT}(ha:LT X F0 H0 a da):LW X F0 H0 (.BoolOp .Or [a] pos) da:=pw_or1 ha
theorem qj{rest:List Expr}{da db:DT}(ha:LT X F0 H0 a da)(hb:LW X F0 H0 (.BoolOp .And (b::rest) pos) db):LW X F0 H0 (.BoolOp .And (a::b::rest) pos) (sV da db):=
 pwW (pw_and ha hb) fun σ H Q ⟨F,ρ,fps,P,E,q,k⟩=>⟨F,ρ,fps,_,E,q,fun x hx F1 H1 e1=>by
  cases x with
  |true=>exact ⟨F1,ρ,fps,P,E.ext e1,hx,fun y hy F2 H2 e2=>k y hy F2 H2 (e1.trans e2)⟩
  |false=>exact k _ hx F1 H1 e1⟩
theorem Yk{rest:List Expr}{da db:DT}(ha:LT X F0 H0 a da)(hb:LW X F0 H0 (.BoolOp .Or (b::rest) pos) db):LW X F0 H0 (.BoolOp .Or (a::b::rest) pos) (V5 da db):=
 pwW (pw_or ha hb) fun σ H Q ⟨F,ρ,fps,P,E,q,k⟩=>⟨F,ρ,fps,_,E,q,fun x hx F1 H1 e1=>by
  cases x with
  |false=>exact ⟨F1,ρ,fps,P,E.ext e1,hx,fun y hy F2 H2 e2=>k y hy F2 H2 (e1.trans e2)⟩
  |true=>exact k _ hx F1 H1 e1⟩
theorem iV{da:DT}(h:LW X F0 H0 e da):LT X F0 H0 e da:=h.pt
theorem Zw{da:DT}(h:LT X F0 H0 a da):LT X F0 H0 (.UnaryOp .Not a pos) (Qs da):=
 ptW (pt_not h) fun σ H Q ⟨F,ρ,fps,P,E,q,k⟩=>⟨F,ρ,fps,_,E,q,fun x hx F1 H1 e1=>k _ hx F1 H1 e1⟩
def xF(da db:DE):DE:=fun ρ P=>da ρ fun x=>match x with| .bl true=>db ρ P| .bl false=>P (.bl false)|_=>False
def aAk(da db:DE):DE:=fun ρ P=>da ρ fun x=>match x with| .bl false=>db ρ P| .bl true=>P (.bl true)|_=>False
def aiW(da:DE):DE:=fun ρ P=>da ρ fun x=>match x with| .bl k=>P (.bl !k)|_=>False
theorem Qt{op}{da:DE}(h:LE X F0 H0 a da):LE X F0 H0 (.BoolOp op [a] pos) da:=pe_one h
theorem Qu{rest:List Expr}{da db:DE}(ha:LE X F0 H0 a da)(hb:LE X F0 H0 (.BoolOp .And (b::rest) pos) db):LE X F0 H0 (.BoolOp .And (a::b::rest) pos) (xF da db):=
 peW (pe_and ha hb) fun σ H Q ⟨F,ρ,fps,P,E,q,k⟩=>⟨F,ρ,fps,_,E,q,fun x hx F1 H1 v e1 r1=>by
  cases x with
  |bl x=>
   cases r1
   cases x with
   |true=>exact ⟨true,rfl,F1,ρ,fps,P,E.ext e1,hx,fun y hy F2 H2 w e2 r2=>k y hy F2 H2 w (e1.trans e2) r2⟩
   |false=>exact ⟨false,rfl,k _ hx F1 H1 _ e1 (.bl _)⟩
  |_=>exact hx.elim⟩
theorem avv{da:DE}(ha:LE X F0 H0 a da):LE X F0 H0 (.UnaryOp .Not a pos) (aiW da):=
 peW (pe_not ha) fun σ H Q ⟨F,ρ,fps,P,E,q,k⟩=>⟨F,ρ,fps,_,E,q,fun x hx F1 H1 v e1 r1=>by
  cases x with
  |bl x=>cases r1;exact ⟨x,rfl,k _ hx F1 H1 _ e1 (.bl _)⟩
  |_=>exact hx.elim⟩
def dIf(dc:DT)(da db:DE):DE:=fun ρ P=>dc ρ fun k=>if k=true then da ρ P else db ρ P
def aF:DA:=fun _ P=>P []
def aj(da:DE)(dr:DA):DA:=fun ρ P=>da ρ fun x=>dr ρ fun xs=>P (x::xs)
theorem aC:LA X F0 H0 [] aF:=paW pa_nil fun σ H Q ⟨F,ρ,fps,P,E,q,k⟩=>k _ q F H _ (.refl E.x.w) .nil
theorem aO:LAB X F0 H0 [] aF:=paW pa_nil fun σ H Q ⟨F,ρ,fps,P,E,q,k⟩=>k _ q F H _ (.refl E.x.w) .nil
theorem aa{es:List Expr}{da:DE}{dr:DA}(ha:LE X F0 H0 e da)(hr:LA X F0 H0 es dr)(hs:starEach (e::es) X.env=(false,eval e X.env)::starEach es X.env:=by rfl):LA X F0 H0 (e::es) (aj da dr):=
 paW (pa_cons ha hr hs) fun σ H Q ⟨F,ρ,fps,P,E,q,k⟩=>⟨F,ρ,fps,_,E,q,fun x hx F1 H1 v e1 r1=>
  ⟨F1,ρ,fps,_,E.ext e1,hx,fun y hy F2 H2 w e2 r2=>k _ hy F2 H2 _ (e1.trans e2) (.cons (r1.mono e2.f) r2)⟩⟩
theorem aH{es:List Expr}{da:DE}{dr:DA}(ha:LB X F0 H0 e da)(hr:LAB X F0 H0 es dr)(hs:starEach (e::es) X.env=(false,eval e X.env)::starEach es X.env:=by rfl):LAB X F0 H0 (e::es) (aj da dr):=
 paW (pa_cons ha hr hs) fun σ H Q ⟨F,ρ,fps,P,E,q,k⟩=>⟨F,ρ,fps,_,E,q,fun x hx F1 H1 v e1 r1=>
  ⟨F1,ρ,fps,_,E.ext e1,hx,fun y hy F2 H2 w e2 r2=>k _ hy F2 H2 _ (e1.trans e2) (.cons (r1.ext e2) r2)⟩⟩
def j_(da:DA):DE:=fun ρ P=>da ρ fun xs=>xs.length≤sizeLine∧P (.tup xs)
def iW(da:DA):DE:=fun ρ P=>da ρ fun xs=>xs.length≤sizeLine∧P (.lst xs)
theorem dN{es:List Expr}{da:DA}{x1}(h:LA X F0 H0 es da):LE X F0 H0 (.Tuple es x1 pos) (j_ da):=
 peW (pe_tup h) fun σ H Q ⟨F,ρ,fps,P,E,q,k⟩=>⟨F,ρ,fps,_,E,q,fun xs hx F1 H1 vs e1 r1=>
  ⟨by rw [r1.length];exact hx.1,fun p hp=>k _ hx.2 _ _ _ (e1.trans (.new e1.w hp)) (rB e1.w hp r1 hx.1)⟩⟩
theorem iD{es:List Expr}{da:DA}(h:LA X F0 H0 es da):LE X F0 H0 (.List es pos) (iW da):=
 peW (pe_lst h) fun σ H Q ⟨F,ρ,fps,P,E,q,k⟩=>⟨F,ρ,fps,_,E,q,fun xs hx F1 H1 vs e1 r1=>
  ⟨by rw [r1.length];exact hx.1,fun p hp=>k _ hx.2 _ _ _ (e1.trans (.new e1.w hp)) (rA e1.w hp r1 hx.1)⟩⟩
def ixD{α:Type}(xs:List α)(i:Int):Option α:=if 0≤i then xs[i.toNat]? else if -(xs.length:Int)≤i then xs[(i+xs.length).toNat]? else none
theorem afk{α:Type}(xs:List α)(i:Int):atI xs i=ixD xs i:=by
 unfold atI ixD ixN
 by_cases h:0≤i
 ·rw [if_pos h,if_pos h]
  by_cases g:i<xs.length
  ·rw [if_pos g];rfl
  ·rw [if_neg g]
   rw [List.getElem?_eq_none (by omega)];rfl
 ·rw [if_neg h,if_neg h]
  split<;>rfl
def dIx:DR2
 | .lst xs, .int i,P=>match ixD xs i with|some d=>P d|none=>False
 | .tup xs, .int i,P=>match ixD xs i with|some d=>P d|none=>False
 | .str xs, .int i,P=>match ixD xs i with|some c=>P (.str [c])|none=>False
 |_,_,_=>False
theorem aY.ix{K:PySem.W.Frag}{F:Hp}{v:List V}{d:List D}{i:Int}{y:D}(r:aY K F v d)(h:ixD d i=some y): ∃x,atI v i=some x∧Rep K F x y:=by
 rw [afk]
 unfold ixD at h ⊢
 rw [r.length]
 split at h
 ·rename_i c;rw [if_pos c];exact r.getD h
 ·rename_i c
  rw [if_neg c]
  split at h
  ·rename_i c;rw [if_pos c];exact r.getD h
  ·cases h
theorem ao2{α:Type}{xs:List α}{i:Int}{y:α}(h:ixD xs i=some y):y∈xs:=by
 unfold ixD at h
 split at h
 ·exact List.mem_of_getElem? h
 ·split at h
  ·exact List.mem_of_getElem? h
  ·cases h
theorem CJ{z:Tx}{c:Nat}(h:oF z=true)(m:c∈z):oF [c]=true:=by
 simp only [oF,List.all_eq_true] at h
 simpa [oF] using h c m
theorem avw{K:PySem.W.Frag}:j8 K (rIx K) dIx:=by
 intro F H v w x y P Q e bx byy d k
 unfold dIx at d
 split at d
 ·obtain ⟨p,vs,rfl,s,r,z⟩:=bx.lst e
  cases byy.int
  split at d
  ·rename_i xs i q hq
   obtain ⟨u,h1,h2⟩:=r.ix hq
   exact .inl ⟨p,vs,_,u,rfl,rfl,s,h1,k _ d F H _ (.refl e) h2⟩
  ·exact d.elim
 ·obtain ⟨p,vs,rfl,s,r,z⟩:=bx.tup e
  cases byy.int
  split at d
  ·rename_i xs i q hq
   obtain ⟨u,h1,h2⟩:=r.ix hq
   exact .inr (.inl ⟨p,vs,_,u,rfl,rfl,s,h1,k _ d F H _ (.refl e) h2⟩)
  ·exact d.elim
 ·obtain ⟨rfl,h1,h2⟩:=bx.str
  cases byy.int
  split at d
  ·rename_i xs i c hq
   refine .inr (.inr ⟨_,_,_,rfl,rfl,by rw [ju];exact h1, ?_,k _ d F H _ (.refl e) (.str [c] (by show 1≤sizeLine;decide) (CJ h2 (ao2 hq)))⟩)
   rw [afk];exact hq
  ·exact d.elim
 ·exact d.elim
theorem bj{da db:DE}(ha:LB X F0 H0 a da)(hb:LB X F0 H0 b db)(hs:PlainIx b:=by exact fun _ _=>rfl):LE X F0 H0 (.Subscript a b pos) (dOp dIx da db):=peW (pe_ix ix_seq ha hb hs) (Zt avw)
abbrev DO:=Rh→(Option Int→Prop)→Prop
def aDR(K:PySem.W.Frag)(F0 H0:Hp)(d:DO):TO:=fun σ H Q=> ∃F ρ fps P,bJ K F0 H0 F H σ ρ fps∧d ρ P∧ ∀o,P o→ ∀F' H',Ext F H F' H'→Q o H'
abbrev LO(X:Cx)(F0 H0:Hp)(e:Option Expr)(d:DO):Prop:=PO X e (aDR X.K F0 H0 d)
theorem poW{e:Option Expr}{t t':TO}(h:PO X e t)(k: ∀σ H Q,t' σ H Q→t σ H Q):PO X e t':=⟨fun pins s σ H Q I q=>h.run pins s σ H Q I (k σ H Q q)⟩
def mZ:DO:=fun _ P=>P none
def uF(da:DE):DO:=fun ρ P=>da ρ fun x=>match x with| .int i=>P (some i)|_=>False
theorem qR:LO X F0 H0 none mZ:=poW po_none fun σ H Q ⟨F,ρ,fps,P,E,q,k⟩=>k _ q F H (.refl E.x.w)
theorem m7{da:DE}(h:LE X F0 H0 e da):LO X F0 H0 (some e) (uF da):=poW (po_some h) fun σ H Q ⟨F,ρ,fps,P,E,q,k⟩=>⟨F,ρ,fps,_,E,q,fun x hx F1 H1 v e1 r1=>by
  cases x with
  |int x=>cases r1;exact ⟨x,rfl,k _ hx F1 H1 e1⟩
  |_=>exact hx.elim⟩
def cut{α:Type}(xs:List α)(lo hi:Option Int):List α:=(xs.drop (HT.sIx xs.length 0 lo)).take (HT.sIx xs.length xs.length hi - HT.sIx xs.length 0 lo)
def Zx(lo hi:Option Int):DR1
 | .lst xs,P=>P (.lst (cut xs lo hi))
 | .str xs,P=>P (.str (cut xs lo hi))
 |_,_=>False
theorem vL{α:Type}(xs:List α)(lo hi:Option Int):(cut xs lo hi).length≤xs.length:=by
 unfold cut;rw [List.length_take,List.length_drop];omega
theorem ao3{α:Type}(xs:List α)(lo hi:Option Int): ∀x∈cut xs lo hi,x∈xs:=fun x h=>List.mem_of_mem_drop (List.mem_of_mem_take h)
theorem abp{x y:Tx}(h:oF y=true)(s: ∀c∈x,c∈y):oF x=true:=by
 simp only [oF,List.all_eq_true] at h ⊢
 exact fun c hc=>h c (s c hc)
theorem aY.cut{K:PySem.W.Frag}{F:Hp}{v:List V}{d:List D}(lo hi:Option Int)(r:aY K F v d):aY K F (cutV v lo hi) (cut d lo hi):=by
 unfold cutV DL.cut
 rw [r.length]
 exact (r.drop _).take _
abbrev aiX(K:PySem.W.Frag):V→Option Int→Option Int→Hp→VK→Prop:=fun x lo hi H Q=>rSlL K x lo hi H Q∨rSlS x lo hi H Q
theorem avx{K:PySem.W.Frag}(lo hi:Option Int):aiV K (fun x H Q=>aiX K x lo hi H Q) (Zx lo hi):=by
 intro F H v x P Q e bx d k
 unfold Zx at d
 split at d
 ·obtain ⟨p,vs,rfl,s,r,z⟩:=bx.lst e
  exact .inl ⟨p,vs,rfl,s,fun p hp=>k _ d _ _ _ (.new e hp) (rA e hp (r.cut lo hi) (Nat.le_trans (vL _ _ _) z))⟩
 ·obtain ⟨rfl,h1,h2⟩:=bx.str
  rename_i xs
  refine .inr ⟨_,rfl,by rw [ju];exact h1,k _ d F H _ (.refl e) ?_⟩
  have:cutS (aZ xs) lo hi=aZ (cut xs lo hi):=by
   unfold cutS cut
   rw [ju]
   rfl
  rw [this]
  exact .str _ (Nat.le_trans (vL _ _ _) h1) (abp h2 (ao3 _ _ _))
 ·exact d.elim
def dSl(da:DE)(dl dh:DO):DE:=fun ρ P=>da ρ fun x=>dl ρ fun lo=>dh ρ fun hi=>Zx lo hi x P
theorem zP{da:DE}{dl dh:DO}{lo hi:Option Expr}{p2:Pos}(ha:LB X F0 H0 a da)(hl:LO X F0 H0 lo dl)(hh:LO X F0 H0 hi dh):LE X F0 H0 (.Subscript a (.Slice lo hi none p2) pos) (dSl da dl dh):=
 peW (pe_slice (r:=aiX X.K) (sl_list.or sl_str) ha hl hh) fun σ H Q ⟨F,ρ,fps,P,E,q,k⟩=>⟨F,ρ,fps,_,E,q,fun x hx F1 H1 v e1 r1=>
  ⟨F1,ρ,fps,_,E.ext e1,hx,fun o1 h1 F2 H2 e2=>⟨F2,ρ,fps,_,(E.ext e1).ext e2,h1,fun o2 h2 F3 H3 e3=>
   avx o1 o2 F3 H3 v x P Q e3.w ((r1.ext e2).ext e3) h2 fun z pz F4 H4 u e4 r4=>k z pz F4 H4 u (((e1.trans e2).trans e3).trans e4) r4⟩⟩⟩
end
end DL
end
section
namespace DL
open PySem L2
variable[bG]
structure DEn where
 nx:Rh→Prop
 rt:D→Prop
 bk:Rh→Prop:=fun _=>False
 ct:Rh→Prop:=fun _=>False
 rn:D→Prop:=fun _=>False
 rg:Tr→Rh→Prop:=fun _ _=>False
abbrev DS:=DEn→Rh→Prop
abbrev DG:=D→Rh→(Rh→Prop)→Prop
abbrev DI:=Rh→(List D→Prop)→Prop
section
variable(K:PySem.W.Frag)(F0 H0:Hp)
structure abq(F:Hp)(E:DEn)(D:Ends):Prop where
 nx: ∀F' H' σ' ρ' fps',Same F F'→bJ K F0 H0 F' H' σ' ρ' fps'→E.nx ρ'→D.nx σ' H'
 bk: ∀F' H' σ' ρ' fps',Same F F'→bJ K F0 H0 F' H' σ' ρ' fps'→E.bk ρ'→D.bk σ' H'
 ct: ∀F' H' σ' ρ' fps',Same F F'→bJ K F0 H0 F' H' σ' ρ' fps'→E.ct ρ'→D.ct σ' H'
 rt: ∀F' H' v x,Same F F'→Ext F0 H0 F' H'→Rep K F' v x→E.rt x→D.rt v H'
 rn: ∀F' H' v x fp,Same F F'→Ext F0 H0 F' H'→Own K F' H' v x fp→fp.Nodup→(∀a∈fp,H0 a=none)→E.rn x→D.rt v H'
 rg: ∀F' H' σ' ρ' fps' v t fp,Same F F'→bJ K F0 H0 F' H' σ' ρ' fps'→cU K F' H' v t fp→fp.Nodup→(∀a∈fp,H0 a=none∧a∉fps'.flatten)→E.rg t ρ'→D.rt v H'
def adR(d:DS):TS:=fun D σ H=> ∃F ρ fps E,bJ K F0 H0 F H σ ρ fps∧d E ρ∧abq K F0 H0 F E D
end
theorem abq.mono{K:PySem.W.Frag}{F0 H0 F F1:Hp}{E:DEn}{D:Ends}(h:abq K F0 H0 F E D)(s:Same F F1):abq K F0 H0 F1 E D:=
 ⟨fun F' H' σ' ρ' fps' q=>h.nx F' H' σ' ρ' fps' (s.trans q),fun F' H' σ' ρ' fps' q=>h.bk F' H' σ' ρ' fps' (s.trans q),fun F' H' σ' ρ' fps' q=>h.ct F' H' σ' ρ' fps' (s.trans q),fun F' H' v x q=>h.rt F' H' v x (s.trans q),fun F' H' v x fp q=>h.rn F' H' v x fp (s.trans q),fun F' H' σ' ρ' fps' v t fp q=>h.rg F' H' σ' ρ' fps' v t fp (s.trans q)⟩
section
variable{X:Cx}{F0 H0:Hp}{e a b c:Expr}{pos:Pos}
abbrev LS(X:Cx)(F0 H0:Hp)(st:Stmt)(d:DS):Prop:=PS X st (adR X.K F0 H0 d)
abbrev LSs(X:Cx)(F0 H0:Hp)(st:List Stmt)(d:DS):Prop:=PSs X st (adR X.K F0 H0 d)
def cX:DS:=fun E ρ=>E.nx ρ
def aR(d u:DS):DS:=fun E ρ=>d { E with nx:=u E } ρ
theorem bF:LSs X F0 H0 [] cX:=aiM pss_nil fun D σ H ⟨F,ρ,fps,E,R,q,k⟩=>k.nx F H σ ρ fps (.refl F) R q
theorem au{st:Stmt}{rest:List Stmt}{d u:DS}(h1:LS X F0 H0 st d)(h2:LSs X F0 H0 rest u):LSs X F0 H0 (st::rest) (aR d u):=
 aiM (pss_cons h1 h2) fun D σ H ⟨F,ρ,fps,E,R,q,k⟩=>⟨F,ρ,fps,_,R,q,⟨fun F' H' σ' ρ' fps' s R' q'=>⟨F',ρ',fps',E,R',q',k.mono s⟩,k.bk,k.ct,k.rt,k.rn,k.rg⟩⟩
theorem az{st:Stmt}{d:DS}(h1:LS X F0 H0 st d):LSs X F0 H0 [st] d:=pss_one h1
def avy:DS:=fun E ρ=>E.bk ρ
def aAl:DS:=fun E ρ=>E.ct ρ
def aiY(da:DE):DS:=fun E ρ=>da ρ fun _=>E.nx ρ
def bY(da:DE):DS:=fun E ρ=>da ρ E.rt
theorem aU{da:DE}(h:LE X F0 H0 e da):LS X F0 H0 (.Return (some e) pos) (bY da):=
 psW (ps_ret h) fun D σ H ⟨F,ρ,fps,E,R,q,k⟩=>⟨F,ρ,fps,_,R,q,fun x hx F1 H1 v e1 r1=>k.rt F1 H1 v x e1.f (R.x.trans e1) r1 hx⟩
def aAm:DS:=fun E _=>E.rt .non
def fX(dc:DT)(d u:DS):DS:=fun E ρ=>dc ρ fun k=>if k=true then d E ρ else u E ρ
theorem dG{x y:List Stmt}{dc:DT}{d u:DS}(hc:LT X F0 H0 c dc)(ha:LSs X F0 H0 x d)(hb:LSs X F0 H0 y u):LS X F0 H0 (.If c x y pos) (fX dc d u):=
 psW (ps_if hc ha hb) fun D σ H ⟨F,ρ,fps,E,R,q,k⟩=>⟨F,ρ,fps,_,R,q,fun z hz F1 H1 e1=>by
  cases z with
  |true=>exact ⟨F1,ρ,fps,E,R.ext e1,hz,k.mono e1.f⟩
  |false=>exact ⟨F1,ρ,fps,E,R.ext e1,hz,k.mono e1.f⟩⟩
def aiZ:DS:=fun _ _=>False
theorem ai0{st:Stmt}:LS X F0 H0 st aiZ:=psW ps_never fun D σ H ⟨F,ρ,fps,E,R,q,k⟩=>q
def Agr(is:List Nat)(σ σ':L2.St):Prop:=σ'.length=σ.length∧ ∀j,j∉is→σ'[j]? =σ[j]?
theorem Agr.refl(is:List Nat)(σ:L2.St):Agr is σ σ:=⟨rfl,fun _ _=>rfl⟩
theorem Agr.set{is:List Nat}{σ:L2.St}{i:Nat}{x:Option V}(h:i∈is):Agr is σ (σ.set i x):=⟨List.length_set ..,fun j hj=>List.getElem?_set_ne (fun e=>hj (by rw [←e];exact h))⟩
theorem Agr.trans{is js ks:List Nat}{a b c:L2.St}(h:Agr is a b)(k:Agr js b c)(hi: ∀x∈is,x∈ks)(hj: ∀x∈js,x∈ks):Agr ks a c:=
 ⟨k.1.trans h.1,fun j n=>(k.2 j fun z=>n (hj j z)).trans (h.2 j fun z=>n (hi j z))⟩
theorem Agr.wipe{is vs:List Nat}{σ σ':L2.St}(h:Agr is σ σ')(s: ∀i∈is,i∈vs):L2.wipe σ' vs=L2.wipe σ vs:=by
 refine List.ext_getElem? fun j=> ?_
 by_cases hj:j∈vs
 ·have q: ∀(τ:L2.St) (ws:List Nat),j∈ws→(L2.wipe τ ws)[j]? =if j<τ.length then some none else none:=by
   intro τ ws hw
   induction ws with
   |nil=>cases hw
   |cons v ws ih=>
    unfold L2.wipe
    by_cases e:v=j
    ·subst e
     by_cases l:v<τ.length
     ·rw [List.getElem?_set_self (by rw [L2.wipe_length];exact l),if_pos l]
     ·rw [List.getElem?_eq_none (by rw [List.length_set,L2.wipe_length];omega),if_neg l]
    ·rw [List.getElem?_set_ne e]
     exact ih ((List.mem_cons.mp hw).resolve_left fun z=>e z.symm)
  rw [q _ _ hj,q _ _ hj,h.1]
 ·rw [L2.wipe_out hj,L2.wipe_out hj]
  exact h.2 j fun z=>hj (s j z)
def CK(K:PySem.W.Frag)(g:TG)(d:DG)(is:List Nat):Prop:= ∀(F0 H0 F H:Hp) σ ρ fps v x (P:Rh→Prop) (Q:L2.St→Hp→Prop),bJ K F0 H0 F H σ ρ fps→Rep K F v x→d x ρ P→(∀ρ',P ρ'→ ∀σ' fps',Agr is σ σ'→bJ K F0 H0 F H σ' ρ' fps'→Q σ' H)→g v σ H Q
theorem bJ.set{K:PySem.W.Frag}{F0 H0 F H:Hp}{σ:L2.St}{ρ:Rh}{fps:List (List Addr)}{v:V}{x:D}(R:bJ K F0 H0 F H σ ρ fps)(r:Rep K F v x)(i:Nat):bJ K F0 H0 F H (σ.set i (some v)) (ρ.set i (.sh x)) (fps.set i []):=
 ⟨R.x,R.s.set (.sh r) i,R.p.set_nil i,R.b⟩
def dgN(i:Nat):DG:=fun x ρ P=>P (ρ.set i (.sh x))
theorem aP{K:PySem.W.Frag}{i:Nat}:CK K (gName i) (dgN i) [i]:=fun F0 H0 F H σ ρ fps v x P Q R r d k=>k _ d _ _ (Agr.set (by simp)) (R.set r i)
abbrev DGs:=List D→Rh→(Rh→Prop)→Prop
def afl(K:PySem.W.Frag)(g:TGs)(d:DGs)(is:List Nat):Prop:= ∀(F0 H0 F H:Hp) σ ρ fps v x (P:Rh→Prop) (Q:L2.St→Hp→Prop),bJ K F0 H0 F H σ ρ fps→aY K F v x→d x ρ P→(∀ρ',P ρ'→ ∀σ' fps',Agr is σ σ'→bJ K F0 H0 F H σ' ρ' fps'→Q σ' H)→g v σ H Q
def iJ:DGs:=fun x ρ P=>match x with|[]=>P ρ|_=>False
def bz(d:DG)(u:DGs):DGs:=fun x ρ P=>match x with|[]=>False|y::r=>d y ρ fun ρ'=>u r ρ' P
theorem dZ{K:PySem.W.Frag}:afl K gNil iJ []:=fun F0 H0 F H σ ρ fps v x P Q R r d k=>by
 cases r with
 |nil=>exact ⟨rfl,k _ d _ _ (.refl _ _) R⟩
 |cons=>exact d.elim
theorem aQ{K:PySem.W.Frag}{g:TG}{gs:TGs}{d:DG}{ds:DGs}{is js:List Nat}(h:CK K g d is)(hs:afl K gs ds js):afl K (gCons g gs) (bz d ds) (is++js):=fun F0 H0 F H σ ρ fps v x P Q R r d k=>by
 cases r with
 |nil=>exact d.elim
 |cons r rs=>exact ⟨_,_,rfl,h F0 H0 F H σ ρ fps _ _ _ _ R r d fun ρ' p σ' fps' A R'=>hs F0 H0 F H σ' ρ' fps' _ _ P Q R' rs p fun ρ2 p2 σ2 fps2 A2 R2=>k ρ2 p2 σ2 fps2 (A.trans A2 (by simp_all) (by simp_all)) R2⟩
def dgT(n:Nat)(u:DGs):DG:=fun x ρ P=>match x with| .tup xs=>xs.length=n∧u xs ρ P|_=>False
theorem ql{K:PySem.W.Frag}{n:Nat}{gs:TGs}{ds:DGs}{is:List Nat}(h:afl K gs ds is):CK K (gTup K n gs) (dgT n ds) is:=fun F0 H0 F H σ ρ fps v x P Q R r d k=>by
 unfold dgT at d
 cases x<;>first|exact d.elim|skip
 cases r with
 |tup s z r=>exact ⟨_,_,rfl,cD R.x.w s,by rw [r.length];exact d.1,h F0 H0 F H σ ρ fps _ _ P Q R r d.2 k⟩
def bW(da:DE)(dg:DG):DS:=fun E ρ=>da ρ fun x=>dg x ρ E.nx
theorem afm{te:TE}{g:TG}{da:DE}{dg:DG}{is:List Nat}(hg:CK X.K g dg is)(he: ∀σ H Q,low X.K F0 H0 da σ H Q→te σ H Q): ∀D σ H,adR X.K F0 H0 (bW da dg) D σ H→tAsg te g D σ H:=
 fun D σ H ⟨F,ρ,fps,E,R,q,k⟩=>he _ _ _ ⟨F,ρ,fps,_,R,q,fun x hx F1 H1 v e1 r1=>hg F0 H0 F1 H1 σ ρ fps v x _ _ (R.ext e1) r1 hx fun ρ' p σ' fps' _ R'=>k.nx F1 H1 σ' ρ' fps' e1.f R' p⟩
theorem aW{tg:Expr}{g:TG}{da:DE}{dg:DG}{is:List Nat}(h: ∀te,PE X e te→PS X (.Assign [tg] e pos) (tAsg te g))(hg:CK X.K g dg is)(he:LE X F0 H0 e da):LS X F0 H0 (.Assign [tg] e pos) (bW da dg):=
 psW (h _ he) (afm hg fun _ _ _ q=>q)
def wU(dg:DG)(db:DS)(E:DEn):List D→Rh→Prop
 |[],ρ=>E.nx ρ
 |x::xs,ρ=>dg x ρ fun ρ'=>db { nx:=wU dg db E xs,ct:=wU dg db E xs,bk:=E.nx,rt:=E.rt,rn:=E.rn,rg:=E.rg } ρ'
def jr(di:DI)(dg:DG)(db:DS):DS:=fun E ρ=>di ρ fun xs=>wU dg db E xs ρ
structure xG(K:PySem.W.Frag)(F:Hp)(J:It)(xs:List D):Prop where
 go: ∀H i,Same F H→i<xs.length→J.go i H
 stop: ∀H,Same F H→J.stop xs.length H
 yld: ∀F1 H i v H' x,Same F F1→Same F1 H→J.yld i H v H'→xs[i]? =some x→ ∃F2,Ext F1 H F2 H'∧Rep K F2 v x
structure Zy(K:PySem.W.Frag)(F H0:Hp)(J:It)(xs:List D):Prop where
 go: ∀H i,Same F H→LamX.ExtN H0 H→i<xs.length→J.go i H
 stop: ∀H,Same F H→LamX.ExtN H0 H→J.stop xs.length H
 yld: ∀F1 H i v H' x,Same F F1→Same F1 H→LamX.ExtN H0 H→J.yld i H v H'→xs[i]? =some x→ ∃F2,Ext F1 H F2 H'∧Rep K F2 v x
theorem xG.toB{K:PySem.W.Frag}{F H0:Hp}{J:It}{xs:List D}(h:xG K F J xs):Zy K F H0 J xs:=⟨fun H i e _ l=>h.go H i e l,fun H e _=>h.stop H e,fun F1 H i v H' x e1 e2 _ y l=>h.yld F1 H i v H' x e1 e2 y l⟩
def ao4(K:PySem.W.Frag)(F0 H0:Hp)(d:DI):TI:=fun σ H R=> ∃F ρ fps P,bJ K F0 H0 F H σ ρ fps∧d ρ P∧ ∀xs,P xs→ ∀F' H' J,Ext F H F' H'→Zy K F' H0 J xs→R J H'
abbrev LI(X:Cx)(F0 H0:Hp)(tg e:Expr)(d:DI):Prop:=PI X tg e (ao4 X.K F0 H0 d)
theorem ao5{wi:TI}{g:TG}{tb:TS}{di:DI}{dg:DG}{db:DS}{is:List Nat}(hi: ∀σ H R,ao4 X.K F0 H0 di σ H R→wi σ H R)(hg:CK X.K g dg is)(hb: ∀D σ H,adR X.K F0 H0 db D σ H→tb D σ H):
  ∀D σ H,adR X.K F0 H0 (jr di dg db) D σ H→tFor wi g tb D σ H:=fun D σ H ⟨F,ρ,fps,E,R,q,k⟩=>
 hi _ _ _ ⟨F,ρ,fps,_,R,q,fun xs hx F1 H1 J e1 it=>by
  refine ⟨fun i m σ H=>m=xs.length - i∧i≤xs.length∧ ∃F2 ρ2 fps2,Same F1 F2∧bJ X.K F0 H0 F2 H σ ρ2 fps2∧wU dg db E (xs.drop i) ρ2,⟨_,rfl,Nat.zero_le _,F1,ρ,fps, .refl _,R.ext e1,hx⟩, ?_⟩
  rintro i m σ H ⟨rfl,hi,F2,ρ2,fps2,s2,R2,q2⟩
  by_cases hlt:i<xs.length
  ·refine .inr ⟨it.go H i (s2.trans R2.x.w) R2.x.n hlt,fun σ' H'=> ∃F3 ρ3 fps3,Same F1 F3∧bJ X.K F0 H0 F3 H' σ' ρ3 fps3∧wU dg db E (xs.drop (i+1)) ρ3,fun σ' H' n=>⟨_,by omega,rfl,hlt,n⟩,fun v H' y=> ?_⟩
   have hx:xs[i]? =some xs[i]:=by simp [hlt]
   obtain ⟨F3,e3,r3⟩:=it.yld F2 H i v H' _ s2 R2.x.w R2.x.n y hx
   have ed:xs.drop i=xs[i]::xs.drop (i+1):=by simp
   rw [ed] at q2
   unfold wU at q2
   refine hg F0 H0 F3 H' σ ρ2 fps2 v _ _ _ (R2.ext e3) r3 q2 fun ρ4 p4 σ4 fps4 _ R4=> ?_
   have s4:Same F1 F3:=s2.trans e3.f
   refine hb _ _ _ ⟨F3,ρ4,fps4,_,R4,p4,⟨?_, ?_, ?_, ?_, ?_, ?_⟩⟩
   ·exact fun F5 H5 σ5 ρ5 fps5 s5 R5 q5=>⟨F5,ρ5,fps5,s4.trans s5,R5,q5⟩
   ·exact fun F5 H5 σ5 ρ5 fps5 s5 R5 q5=>k.nx F5 H5 σ5 ρ5 fps5 (e1.f.trans (s4.trans s5)) R5 q5
   ·exact fun F5 H5 σ5 ρ5 fps5 s5 R5 q5=>⟨F5,ρ5,fps5,s4.trans s5,R5,q5⟩
   ·exact fun F5 H5 v x s5 e5 r5 q5=>k.rt F5 H5 v x (e1.f.trans (s4.trans s5)) e5 r5 q5
   ·exact fun F5 H5 v x fp s5 e5 r5 n1 n2 q5=>k.rn F5 H5 v x fp (e1.f.trans (s4.trans s5)) e5 r5 n1 n2 q5
   ·exact fun F5 H5 σ5 ρ5 fps5 v t fp s5 R5 r5 n1 n2 q5=>k.rg F5 H5 σ5 ρ5 fps5 v t fp (e1.f.trans (s4.trans s5)) R5 r5 n1 n2 q5
  ·have e:i=xs.length:=by omega
   subst e
   rw [List.drop_length] at q2
   exact .inl ⟨it.stop H (s2.trans R2.x.w) R2.x.n,k.nx F2 H σ ρ2 fps2 (e1.f.trans s2) R2 q2⟩⟩
theorem dw{tg:Expr}{g:TG}{di:DI}{dg:DG}{db:DS}{is:List Nat}{body:List Stmt}(hp:PassesOwn (model X.prog X.w) X.A X.env X.xe)(hc:X.calm=true)(hi:LI X F0 H0 tg e di)(pg:PG X tg g)(hg:CK X.K g dg is)(hb:LSs X F0 H0 body db)
  (hs: ∀x,foldedSetIterable e X.env x=pure x:=by intro _;rfl):LS X F0 H0 (.For tg e body [] pos) (jr di dg db):=
 psW (ps_for hp hc hi pg hb hs) (ao5 (fun _ _ _ q=>q) hg fun _ _ _ q=>q)
def xH(c:DT)(body:DS)(E:DEn):Nat→Rh→Prop
 | 0,_=>False
 |n+1,ρ=>c ρ fun b=>if b=true then body { nx:=xH c body E n,ct:=xH c body E n,bk:=E.nx,rt:=E.rt,rn:=E.rn,rg:=E.rg } ρ else E.nx ρ
def adS(c:DT)(body:DS):DS:=fun E ρ=> ∃n,xH c body E n ρ
theorem ai1{dc:DT}{db:DS}{body:List Stmt}(hp:PassesOwn (model X.prog X.w) X.A X.env X.xe)(hc:LT X F0 H0 c dc)(hb:LSs X F0 H0 body db):LS X F0 H0 (.While c body [] pos) (adS dc db):=
 psW (ps_while hp hc hb) fun D σ H ⟨F,ρ,fps,E,R,⟨n,q⟩,k⟩=>by
  refine ⟨fun m σ H=> ∃F2 ρ2 fps2,Same F F2∧bJ X.K F0 H0 F2 H σ ρ2 fps2∧xH dc db E m ρ2,⟨n,F,ρ,fps, .refl _,R,q⟩, ?_⟩
  rintro m σ H ⟨F2,ρ2,fps2,s2,R2,q2⟩
  cases m with
  |zero=>exact q2.elim
  |succ m=>
   unfold xH at q2
   refine ⟨F2,ρ2,fps2,_,R2,q2,fun z hz F3 H3 e3=> ?_⟩
   cases z with
   |true=>
    rw [if_pos rfl] at hz ⊢
    refine ⟨fun σ' H'=> ∃F3 ρ3 fps3,Same F F3∧bJ X.K F0 H0 F3 H' σ' ρ3 fps3∧xH dc db E m ρ3,fun σ' H' nn=>⟨m,Nat.lt_succ_self _,nn⟩,F3,ρ2,fps2,_,R2.ext e3,hz,⟨?_, ?_, ?_, ?_, ?_, ?_⟩⟩
    ·exact fun F5 H5 σ5 ρ5 fps5 s5 R5 q5=>⟨F5,ρ5,fps5,s2.trans (e3.f.trans s5),R5,q5⟩
    ·exact fun F5 H5 σ5 ρ5 fps5 s5 R5 q5=>k.nx F5 H5 σ5 ρ5 fps5 (s2.trans (e3.f.trans s5)) R5 q5
    ·exact fun F5 H5 σ5 ρ5 fps5 s5 R5 q5=>⟨F5,ρ5,fps5,s2.trans (e3.f.trans s5),R5,q5⟩
    ·exact fun F5 H5 v x s5 e5 r5 q5=>k.rt F5 H5 v x (s2.trans (e3.f.trans s5)) e5 r5 q5
    ·exact fun F5 H5 v x fp s5 e5 r5 n1 n2 q5=>k.rn F5 H5 v x fp (s2.trans (e3.f.trans s5)) e5 r5 n1 n2 q5
    ·exact fun F5 H5 σ5 ρ5 fps5 v t fp s5 R5 r5 n1 n2 q5=>k.rg F5 H5 σ5 ρ5 fps5 v t fp (s2.trans (e3.f.trans s5)) R5 r5 n1 n2 q5
   |false=>
    rw [if_neg Bool.false_ne_true] at hz ⊢
    exact k.nx F3 H3 σ ρ2 fps2 (s2.trans e3.f) (R2.ext e3) hz
end
end DL
end
section
namespace DL
open PySem L2 PySem.Spec
variable[bG]
inductive Src where
 |tx (x:Str) (t:Tok)|ls (a:Addr)
def Src.it:Src→Addr→Nat→Heap→Prop
 | .tx x t,a,i,h=>h.IsStrIter a (strIterType x) x t i
 | .ls l,a,i,h=>h.IsListIter a l i
def Src.has(K:PySem.W.Frag)(H:Hp):Src→Nat→V→Prop
 | .tx x _,i,v=> ∃c,x.cps[i]? =some c∧v= .str ⟨#[c]⟩
 | .ls a,i,v=> ∀xs,SqL K H a xs→xs[i]? =some v
def Src.len(K:PySem.W.Frag)(H:Hp):Src→Nat→Prop
 | .tx x _,n=>n=x.cps.size
 | .ls a,n=> ∃xs,SqL K H a xs∧n=xs.length
theorem Src.ai2{S:Src}{a:Addr}{i:Nat}{h:Heap}(q:S.it a i h): ∃o,h.get? a=some o∧ ∀v,o.data≠ .cell v:=by
 cases S with
 |tx x t=>obtain ⟨o,h1,h2,h3⟩:=q;exact ⟨o,h1,fun v z=>by rw [h3] at z;cases z⟩
 |ls l=>obtain ⟨o,h1,h2,h3⟩:=q;exact ⟨o,h1,fun v z=>by rw [h3] at z;cases z⟩
theorem Src.afn{S:Src}{a:Addr}{i:Nat}{h h':Heap}(q:S.it a i h)(k: ∀o,h.get? a=some o→h'.get? a=some o):S.it a i h':=by
 cases S with
 |tx x t=>obtain ⟨o,h1,h2⟩:=q;exact ⟨o,k _ h1,h2⟩
 |ls l=>obtain ⟨o,h1,h2⟩:=q;exact ⟨o,k _ h1,h2⟩
theorem Src.Qv{S:Src}{a:Addr}{i:Nat}{h:Heap}(q:S.it a i h): ∃o,h.get? a=some o∧o.cls≠ .type "list":=by
 cases S with
 |tx x t=>
  obtain ⟨o,h1,h2,h3⟩:=q
  refine ⟨o,h1,fun z=> ?_⟩
  rw [h2] at z
  unfold strIterType at z
  split at z<;>exact absurd (Value.type.inj z) (by decide)
 |ls l=>obtain ⟨o,h1,h2,h3⟩:=q;exact ⟨o,h1,fun z=>by rw [h2] at z;exact absurd (Value.type.inj z) (by decide)⟩
theorem Src.draws{X:Cx}{pins:List (Addr×Obj)}{σ:L2.St}{H:Hp}{s:Shared}{i:Nat}(I:Inv X pins σ H s)(hc:X.calm=true)(S:Src)(n:Nat)(hn:S.len X.K H n)(it:Addr)(hit:S.it it i s.heap):
  ∃fp P St,Draws X.prog X.w X.A.in1 it fp n P St∧it∈fp∧(∀b∈fp,b=it∨ ∃o,s.heap.get? b=some o∧o.cls= .type "list")∧St i s.heap∧(∀i h,St i h→S.it it i h)∧(∀i u,P i u→ ∃v,S.has X.K H i v∧RelV v u):=by
 have hh:X.A.in1.handled=none:=I.ok.hd hc
 cases S with
 |tx x t=>
  cases hn
  exact ⟨_,_,_,Draws.text hh it x t,by simp,fun b hb=> .inl (by simpa using hb),hit,fun i h q=>q,fun i u ⟨c,t',h1,h2⟩=>⟨_,⟨c,h1,rfl⟩,t',h2⟩⟩
 |ls l=>
  obtain ⟨xs,hs,rfl⟩:=hn
  obtain ⟨its,rv,pl,hz⟩:=I.list hs
  have hl: ∃o,s.heap.get? l=some o∧o.cls= .type "list":=let ⟨o,n,e,c,_⟩:=pl;⟨o,e,c⟩
  have ne:l≠it:=by
   intro z
   obtain ⟨o,h1,h2⟩:=hl
   obtain ⟨o',h3,h4⟩:=Src.Qv hit
   rw [z,h3] at h1
   cases h1
   exact h4 h2
  have D:=Draws.list (prog:=X.prog) (w:=X.w) (A:=X.A.in1) hh it l ne its.toArray
  have e:its.toArray.size=xs.length:=by rw [List.size_toArray,rv.length]
  rw [e] at D
  refine ⟨_,_,_,D,by simp,fun b hb=> ?_,⟨hit,pl.isList⟩,fun i h q=>q.1,fun i u q=> ?_⟩
  ·have:b=it∨b=l:=by simpa using hb
   rcases this with z|z
   ·exact .inl z
   ·subst z;exact .inr hl
  ·have q:its[i]? =some u:=by simpa using q
   have hi:i<xs.length:=by
    have:=(List.getElem?_eq_some_iff.mp q).1
    rw [←rv.length] at this;exact this
   obtain ⟨u',h1,h2⟩:=rv.get (i:=i) (x:=xs[i]) (by simp [hi])
   rw [q] at h1
   cases h1
   exact ⟨_,fun ys hy=>by rw [I.list_inj hy hs];simp [hi],h2⟩
def avz(K:PySem.W.Frag)(S1 S2:Src):It:=
 ⟨fun i H=> ∃n1 n2,S1.len K H n1∧S2.len K H n2∧i<n1∧i<n2,
  fun i H v H'=> ∃T x y,v= .ref T∧H T=none∧H'=upd H T (.tup [x,y])∧S1.has K H i x∧S2.has K H i y,
  fun i H=> ∃n1 n2,S1.len K H n1∧S2.len K H n2∧i≤n1∧i≤n2∧(i=n1∨i=n2)⟩
structure ZAp(z TI TO i1 i2:Addr):Prop where
 a1:TI≠z
 a2:TO≠z
 a3:TI≠TO
 a4:TI≠i1
 a5:TI≠i2
 a6:z≠i1
 a7:TO≠i1
 a8:z≠i2
 a9:TO≠i2
 a10:i1≠i2
theorem ahG{P:Program}{w:World}{K:PySem.W.Frag}{elts:List Expr}{kk:Nat}{tpos:Pos}{S1 S2:Src}{z TI TO i1 i2:Addr}(D:ZAp z TI TO i1 i2):
  Turn P w K (.Tuple elts kk tpos) (avz K S1 S2) [z,TI,TO,i1,i2] z (fun i h=>IsZip h z TI TO .none∧IsTupOf2 h TI (.ref i1) (.ref i2)∧(∃x y,IsTupOf2 h TO x y)∧S1.it i1 i h∧S2.it i2 i h) where
 mem:=by simp
 obj:=fun i h st c hc=>by
  obtain ⟨hz,hTI,⟨x,y,hTO⟩,h1,h2⟩:=st
  have e':c=z∨c=TI∨c=TO∨c=i1∨c=i2:=by simpa using hc
  rcases e' with q|q|q|q|q
  ·rw [q];exact ⟨_,hz,fun v q=>nomatch q⟩
  ·rw [q];exact ⟨_,hTI,fun v q=>nomatch q⟩
  ·rw [q];exact ⟨_,hTO,fun v q=>nomatch q⟩
  ·rw [q];exact Src.ai2 h1
  ·rw [q];exact Src.ai2 h2
 keep:=fun i h h' st k=>by
  obtain ⟨hz,hTI,⟨x,y,hTO⟩,h1,h2⟩:=st
  exact ⟨k z (by simp) _ hz,k TI (by simp) _ hTI,⟨x,y,k TO (by simp) _ hTO⟩,Src.afn h1 fun o q=>k i1 (by simp) o q,Src.afn h2 fun o q=>k i2 (by simp) o q⟩
 item:=by
  intro X hP hw hK hc i pins s σ H E I hf st hg
  subst hP hw hK
  obtain ⟨hz,hTI,⟨x0,y0,hTO⟩,h1,h2⟩:=st
  obtain ⟨n1,n2,l1,l2,b1,b2⟩:=hg
  obtain ⟨fp1,P1,St1,D1,m1,f1,st1,k1,v1⟩:=Src.draws I hc S1 n1 l1 i1 h1
  obtain ⟨fp2,P2,St2,D2,m2,f2,st2,k2,v2⟩:=Src.draws I hc S2 n2 l2 i2 h2
  have nl: ∀{b:Addr} {o:Obj} {fp:List Addr} {it:Addr},s.heap.get? b=some o→o.cls≠ .type "list"→b≠it→(∀b∈fp,b=it∨ ∃o,s.heap.get? b=some o∧o.cls= .type "list")→b∉fp:=fun e c n f hb=>by
   rcases f _ hb with q|⟨o',e',c'⟩
   ·exact n q
   ·rw [e] at e';cases e';exact c c'
  obtain ⟨o1,g1,c1⟩:=Src.Qv h1
  obtain ⟨o2,g2,c2⟩:=Src.Qv h2
  have sep:ZipSep2 z TI TO i1 i2 fp1 fp2:=
   ⟨D.a1,D.a2,D.a3,D.a4,m1,nl hz (by intro q;exact absurd (Value.type.inj q) (by decide)) D.a6 f1,nl hTO (by intro q;exact absurd (Value.type.inj q) (by decide)) D.a7 f1,D.a5,m2,nl hz (by intro q;exact absurd (Value.type.inj q) (by decide)) D.a8 f2,nl hTO (by intro q;exact absurd (Value.type.inj q) (by decide)) D.a9 f2,nl g1 c1 D.a10 f2,nl g2 c2 D.a10.symm f1⟩
  have hzl:z<s.heap.objs.size:=Heap.lt_size hz
  refine wpAny_pyNext_zipD2_item sep D1 D2 hz hTI hTO st1 st2 b1 b2 fun x1 x2 h' tk y1 y2 z' TO' d1 d2 hT hsz hk=> ?_
  obtain ⟨u1,p1,r1⟩:=v1 _ _ y1
  obtain ⟨u2,p2,r2⟩:=v2 _ _ y2
  refine ⟨_,rfl,wpAny_letOwnedTupleGo_zip (s:={ s with heap:=h',toks:=tk }) z' fun h'' z'' sb=> ?_⟩
  have hT2:h''.get? s.heap.objs.size=some { cls:= .type "tuple",data:= .seq #[x1,x2] }:=(sb.2 _ (Nat.ne_of_gt hzl)).trans hT
  have new:ObjOk X.prog X.w (upd H s.heap.objs.size (.tup [u1,u2])) h'' s.heap.objs.size (.tup [u1,u2]):=
   ⟨by show 2≤sizeLine;decide,[x1,x2], .cons r1 (.cons r2 .nil),⟨_,hT2,rfl,_,rfl⟩⟩
  have I1:Inv X pins σ (upd H s.heap.objs.size (.tup [u1,u2])) { s with heap:=h'',toks:=tk }:=
   I.turnedNew (t':=tk) (ch:=[z,TI,TO,i1,i2]) (fun c o hb q=>(sb.2 c (fun q'=>hb (by simp [q']))).trans (hk c o (fun q'=>hb (by simp [q'])) (fun q'=>hb (by simp [q'])) (fun q'=>hb (by simp [q'])) (fun q'=>hb (by simp [q'])) q)) hf (Nat.le_refl _) new
  refine ⟨.ref s.heap.objs.size,_,I1,rfl,⟨_,u1,u2,rfl,I.hok.fresh (Nat.le_refl _),rfl,p1,p2⟩,⟨z'', ?_,⟨x1,x2, ?_⟩, ?_, ?_⟩,fun c hcm=> ?_⟩
  ·exact (sb.2 _ D.a1).trans (hk _ _ D.a1 D.a3 D.a4 D.a5 hTI)
  ·exact (sb.2 _ D.a2).trans TO'
  ·exact Src.afn (k1 _ _ d1) fun o q=>(sb.2 _ D.a6.symm).trans q
  ·exact Src.afn (k2 _ _ d2) fun o q=>(sb.2 _ D.a8.symm).trans q
  ·have hlt:c<s.heap.objs.size:=by
    have e':c=z∨c=TI∨c=TO∨c=i1∨c=i2:=by simpa using hcm
    rcases e' with q|q|q|q|q
    ·rw [q];exact hzl
    ·rw [q];exact Heap.lt_size hTI
    ·rw [q];exact Heap.lt_size hTO
    ·rw [q];exact Heap.lt_size g1
    ·rw [q];exact Heap.lt_size g2
   rw [upd_ne (Nat.ne_of_lt hlt)]
   exact (hf c hcm).1
 done:=by
  intro X hP hw hK hc i pins s σ H E I hf st hg
  subst hP hw hK
  obtain ⟨hz,hTI,⟨x0,y0,hTO⟩,h1,h2⟩:=st
  obtain ⟨n1,n2,l1,l2,b1,b2,b3⟩:=hg
  obtain ⟨fp1,P1,St1,D1,m1,f1,st1,k1,v1⟩:=Src.draws I hc S1 n1 l1 i1 h1
  obtain ⟨fp2,P2,St2,D2,m2,f2,st2,k2,v2⟩:=Src.draws I hc S2 n2 l2 i2 h2
  have nl: ∀{b:Addr} {o:Obj} {fp:List Addr} {it:Addr},s.heap.get? b=some o→o.cls≠ .type "list"→b≠it→(∀b∈fp,b=it∨ ∃o,s.heap.get? b=some o∧o.cls= .type "list")→b∉fp:=fun e c n f hb=>by
   rcases f _ hb with q|⟨o',e',c'⟩
   ·exact n q
   ·rw [e] at e';cases e';exact c c'
  obtain ⟨o1,g1,c1⟩:=Src.Qv h1
  obtain ⟨o2,g2,c2⟩:=Src.Qv h2
  have sep:ZipSep2 z TI TO i1 i2 fp1 fp2:=
   ⟨D.a1,D.a2,D.a3,D.a4,m1,nl hz (by intro q;exact absurd (Value.type.inj q) (by decide)) D.a6 f1,nl hTO (by intro q;exact absurd (Value.type.inj q) (by decide)) D.a7 f1,D.a5,m2,nl hz (by intro q;exact absurd (Value.type.inj q) (by decide)) D.a8 f2,nl hTO (by intro q;exact absurd (Value.type.inj q) (by decide)) D.a9 f2,nl g1 c1 D.a10 f2,nl g2 c2 D.a10.symm f1⟩
  refine wpAny_pyNext_zipD2_end sep D1 D2 hz hTI hTO st1 st2 b1 b2 b3 fun h' tk hk=>⟨rfl,I.turnedL (t':=tk) (ch:=[z,TI,TO,i1,i2]) (fun c o hb q=>
   hk c o (fun q'=>hb (by simp [q'])) (fun q'=>hb (by simp [q'])) (fun q'=>hb (by simp [q'])) (fun q'=>hb (by simp [q'])) q) hf⟩
 self:=fun A i s Q E st h=>wpAny_pyIter_zip st.1 h
inductive xJ(K:PySem.W.Frag)(H:Hp):V→Src→Prop
 |tx (x:Str) (t:Tok):xJ K H (.str x) (.tx x t)
 |ls {a:Addr} {xs:List V}:SqL K H a xs→xJ K H (.ref a) (.ls a)
def aAn(K:PySem.W.Frag)(ta:TA):TI:=fun σ H R=>ta σ H fun vs H1=> ∃x y,vs=[x,y]∧((∃z,x= .str z)∨ ∃a xs,x= .ref a∧SqL K H1 a xs)∧((∃z,y= .str z)∨ ∃a xs,y= .ref a∧SqL K H1 a xs)∧
 ∀S1 S2,xJ K H1 x S1→xJ K H1 y S2→R (avz K S1 S2) H1
theorem Qw{X:Cx}{pins:List (Addr×Obj)}{σ:L2.St}{H:Hp}{s:Shared}(I:Inv X pins σ H s){v:V}{u:Value}(r:RelV v u)(h:(∃z,v= .str z)∨ ∃a xs,v= .ref a∧SqL X.K H a xs):
  ∃S o G,xJ X.K H v S∧Begins u o G∧G s.heap∧(∀(h':Heap) a,h'.get? a=some o→S.it a 0 h'):=by
 rcases h with ⟨z,rfl⟩|⟨a,xs,rfl,hs⟩
 ·obtain ⟨t,rfl⟩:=r
  exact ⟨.tx z t,_,_, .tx z t,begins_text z t,trivial,fun h' a e=>⟨_,e,rfl,rfl⟩⟩
 ·cases r
  obtain ⟨its,rv,pl,hz⟩:=I.list hs
  exact ⟨.ls a,_,_, .ls hs,begins_list a its.toArray,pl.isList,fun h' b e=>⟨_,e,rfl,rfl⟩⟩
theorem ao6{X:Cx}{e e2:Expr}{ta:TA}{p pos tpos:Pos}{elts:List Expr}{kk:Nat}(hg:Gl X "zip")(hm:X.mg "zip"=none)(ha:PA X [e,e2] ta)
  (hs:starEach [e,e2] X.env=(false,eval e X.env)::starEach [e2] X.env:=by rfl) (hpl:(backTo pos (starEach [e2] X.env)).any (·.1)=false:=by rfl):
  PI X (.Tuple elts kk tpos) (.Call (.Name "zip" p) [e,e2] [] pos) (aAn X.K ta):=by
 refine ⟨fun pins s σ H R I h=> ?_⟩
 refine PyProof.Rows.Call_ (ld_blt I hg hm PyProof.Rows.boot_zip (PyProof.Rows.callWith_type1 (thn (ha.run pos pins s σ H _ I h) fun us s1 ⟨vs,H1,I1,r1,q1⟩=> ?_) hs hpl))
 obtain ⟨x,y,rfl,hx,hy,q⟩:=q1
 cases r1 with
 |cons r rr=>
  cases rr with
  |cons r' rr=>
   cases rr
   obtain ⟨S1,o1,G1,so1,B1,g1,k1⟩:=Qw I1 r hx
   obtain ⟨S2,o2,G2,so2,B2,g2,k2⟩:=Qw I1 r' hy
   refine zip_begins2 B1 B2 g1 g2 fun h' hz hTI hTO h1 h2 hsz hk=>wpAny_pyIter_zip hz ?_
   have I2:Inv X pins σ H1 { s1 with heap:=h' }:=I1.kept (t':=s1.toks) hk
   refine ⟨s1.heap.objs.size+4,[s1.heap.objs.size+4,s1.heap.objs.size+2,s1.heap.objs.size+3,s1.heap.objs.size,s1.heap.objs.size+1],_,_,H1,rfl,I2,
    ahG ⟨?_, ?_, ?_, ?_, ?_, ?_, ?_, ?_, ?_, ?_⟩,⟨hz,hTI,⟨_,_,hTO⟩,k1 _ _ h1,k2 _ _ h2⟩,fun c hcm=> ?_,q S1 S2 so1 so2⟩
   rotate_right
   ·have e':c=s1.heap.objs.size+4∨c=s1.heap.objs.size+2∨c=s1.heap.objs.size+3∨c=s1.heap.objs.size∨c=s1.heap.objs.size+1:=by simpa using hcm
    have hle:s1.heap.objs.size≤c:=by
     rcases e' with z|z|z|z|z
     ·rw [z];exact Nat.le_add_right _ _
     ·rw [z];exact Nat.le_add_right _ _
     ·rw [z];exact Nat.le_add_right _ _
     ·rw [z];exact Nat.le_refl _
     ·rw [z];exact Nat.le_add_right _ _
    exact I1.fpOk hle (I1.hok.fresh hle)
   all_goals (intro q;have q':(_:Nat)=_:=q;omega)
end DL
end
section
namespace DL
open PySem L2 PySem.Spec PyProof.Rows
variable[bG]
section
variable{X:Cx}{F0 H0:Hp}{e a b c k:Expr}{pos p2:Pos}
def tRv(K:PySem.W.Frag)(te tk:TE):TE:=fun σ H Q=>te σ H fun x H1=>tk σ H1 fun y H2=>y= .int (-1)∧
 ((∃z,x= .str z∧z.length≤sizeLine∧Q (.str ⟨z.cps.toList.reverse.toArray⟩) H2)∨ ∃a xs,x= .ref a∧SqL K H2 a xs∧ ∀p,H2 p=none→Q (.ref p) (upd H2 p (.lst xs.reverse)))
def ai3:DR1
 | .lst xs,P=>P (.lst xs.reverse)
 | .str xs,P=>P (.str xs.reverse)
 |_,_=>False
def dRv(da dk:DE):DE:=fun ρ P=>da ρ fun x=>dk ρ fun y=>match y with| .int i=>i= -1∧ai3 x P|_=>False
end
end DL
end
section
namespace DL
open PySem L2 PySem.Spec PyProof.Rows
variable[bG]
section
variable{X:Cx}{tg e:Expr}
def aDS(K:PySem.W.Frag)(te:TE):TI:=fun σ H R=>te σ H fun x H1=>(∃a,x= .ref a∧(∃xs,SqL K H1 a xs)∧R (Itl K a) H1)∨((∃a,x= .ref a∧(∃xs,SqT K H1 a xs)∧R (Itt K a) H1)∨ ∃z,x= .str z∧R (Its z) H1)
theorem avA{te:TE}(hl:PE X e te):PI X tg e (aDS X.K te):=by
 refine ⟨fun pins s σ H R I h=> ?_⟩
 refine thn (hl.run pins s σ H _ I h) fun v s1 ⟨x,H1,I1,r1,q1⟩=> ?_
 rcases q1 with ⟨a,e,⟨xs,hq⟩,q⟩|⟨a,e,⟨xs,hq⟩,q⟩|⟨z,e,q⟩
 ·subst e
  cases r1
  obtain ⟨its,rv,p,hz⟩:=I1.list hq
  refine wpAny_pyIter_list p.isList ?_
  refine ⟨s1.heap.objs.size,[s1.heap.objs.size],_,_,H1,rfl,I1.kept (t':=s1.toks) fun b o e=>Heap.get?_push_of_some _ e,turn_list a _,⟨_,Heap.get?_push_size _ rfl,rfl,rfl⟩,fun b hb=> ?_,q⟩
  have e:b=s1.heap.objs.size:=by simpa using hb
  subst e
  exact I1.fpOk (Nat.le_refl _) (I1.hok.fresh (Nat.le_refl _))
 ·subst e
  cases r1
  obtain ⟨its,rv,p,hz⟩:=I1.tuple hq
  refine wpAny_pyIter_tuple (show s1.heap.IsTuple a its.toArray from p) ?_
  refine ⟨s1.heap.objs.size,[s1.heap.objs.size],_,_,H1,rfl,I1.kept (t':=s1.toks) fun b o e=>Heap.get?_push_of_some _ e,turn_tuple a _,⟨_,Heap.get?_push_size _ rfl,rfl,rfl⟩,fun b hb=> ?_,q⟩
  have e:b=s1.heap.objs.size:=by simpa using hb
  subst e
  exact I1.fpOk (Nat.le_refl _) (I1.hok.fresh (Nat.le_refl _))
 ·subst e
  obtain ⟨t,rfl⟩:=r1
  cases ha:z.cps.all (· <128)
  ·exact wpAny_pyIter_wide ha (pi_one (tk:=s1.toks) I1 _ (turn_str _ z t "str_iterator" (.inr rfl)) ⟨_,Heap.get?_push_size _ rfl,rfl,rfl⟩ q)
  ·exact wpAny_pyIter_ascii ha (pi_one (tk:=s1.toks) I1 _ (turn_str _ z t "str_ascii_iterator" (.inl rfl)) ⟨_,Heap.get?_push_size _ rfl,rfl,rfl⟩ q)
end
end DL
namespace DL
open PySem L2
variable[bG]
section
variable{X:Cx}{F0 H0:Hp}{e a b c tg:Expr}{pos:Pos}
theorem ao7{K:PySem.W.Frag}{F:Hp}{a:Addr}{vs:List V}{xs:List D}(s:SqL K F a vs)(r:aY K F vs xs):xG K F (Itl K a) xs where
 go:=fun H i e hi=>by
  have hv:i<vs.length:=by rw [r.length];exact hi
  exact ⟨vs,vs[i],e.seq s,by simp [hv]⟩
 stop:=fun H e=>⟨vs,e.seq s,by rw [r.length];exact Nat.le_refl _⟩
 yld:=fun F1 H i v H' x e1 e2 y hx=>by
  obtain ⟨rfl,y⟩:=y
  obtain ⟨u,hu,ru⟩:=r.getD hx
  have:=y vs (e2.seq (e1.seq s))
  rw [hu] at this
  cases this
  exact ⟨F1, .refl e2,ru.mono e1⟩
theorem avB{K:PySem.W.Frag}{F:Hp}{a:Addr}{vs:List V}{xs:List D}(s:SqT K F a vs)(r:aY K F vs xs):xG K F (Itt K a) xs where
 go:=fun H i e hi=>by
  have hv:i<vs.length:=by rw [r.length];exact hi
  exact ⟨vs,vs[i],cD e s,by simp [hv]⟩
 stop:=fun H e=>⟨vs,cD e s,by rw [r.length];exact Nat.le_refl _⟩
 yld:=fun F1 H i v H' x e1 e2 y hx=>by
  obtain ⟨rfl,y⟩:=y
  obtain ⟨u,hu,ru⟩:=r.getD hx
  have:=y vs (cD e2 (cD e1 s))
  rw [hu] at this
  cases this
  exact ⟨F1, .refl e2,ru.mono e1⟩
def eO(z:Tx):List D:=z.map fun c=> .str [c]
theorem avC{K:PySem.W.Frag}{F:Hp}{z:Tx}(ok:oF z=true):xG K F (Its (aZ z)) (eO z) where
 go:=fun H i e hi=>by
  simp only [eO,List.length_map] at hi
  show i<(aZ z).cps.size
  simpa [aZ] using hi
 stop:=fun H e=>by
  show (aZ z).cps.size≤(eO z).length
  simp [aZ,eO]
 yld:=fun F1 H i v H' x e1 e2 y hx=>by
  obtain ⟨rfl,c,hc,rfl⟩:=y
  simp only [eO,List.getElem?_map] at hx
  have hz:z[i]? =some c:=by simpa [aZ] using hc
  rw [hz] at hx
  cases hx
  exact ⟨F1, .refl e2, .str [c] (by show 1≤sizeLine;decide) (CJ ok (List.mem_of_getElem? hz))⟩
def kh:D→Option (List D)
 | .lst xs=>some xs
 | .tup xs=>some xs
 | .str z=>some (eO z)
 |_=>none
def dIt(da:DE):DI:=fun ρ P=>da ρ fun x=>match kh x with|some xs=>P xs|none=>False
theorem cZ{da:DE}(ha:LE X F0 H0 e da):LI X F0 H0 tg e (dIt da):=
 piW (avA ha) fun σ H R ⟨F,ρ,fps,P,E,q,k⟩=>⟨F,ρ,fps,_,E,q,fun x hx F1 H1 v e1 r1=>by
  cases r1 with
  |lst s z r=>exact .inl ⟨_,rfl,⟨_,e1.w.seq s⟩,k _ hx F1 H1 _ e1 (ao7 s r).toB⟩
  |tup s z r=>exact .inr (.inl ⟨_,rfl,⟨_,cD e1.w s⟩,k _ hx F1 H1 _ e1 (avB s r).toB⟩)
  |str z h1 h2=>exact .inr (.inr ⟨_,rfl,k _ hx F1 H1 _ e1 (avC h2).toB⟩)
  |_=>exact False.elim hx⟩
def ao8(i:Nat):DI:=fun ρ P=>match ρ[i]? with|some (.sh d)=>(match kh d with|some xs=>P xs|none=>False)|some (.bo d)=>(match kh d with|some xs=>P xs|none=>False)|_=>False
def oX(lo:Int)(n:Nat):List D:=(List.range n).map fun i=> .int (lo+(i:Nat))
theorem avD{K:PySem.W.Frag}{F:Hp}{lo:Int}{n:Nat}:xG K F (Itr lo n) (oX lo n) where
 go:=fun H i e hi=>by
  have:i<n:=by simpa [oX] using hi
  exact this
 stop:=fun H e=>by
  have:n≤(oX lo n).length:=by simp [oX]
  exact this
 yld:=fun F1 H i v H' x e1 e2 y hx=>by
  obtain ⟨rfl,rfl⟩:=y
  simp only [oX,List.getElem?_map] at hx
  cases q:(List.range n)[i]? with
  |none=>rw [q] at hx;cases hx
  |some j=>
   rw [q] at hx
   have hj:j=i:=by
    obtain ⟨h1,h2⟩:=List.getElem?_eq_some_iff.mp q
    simpa using h2.symm
   subst hj
   cases hx
   exact ⟨F1, .refl e2, .int _⟩
def fM(i:Int):Prop:= -(2 ^ 62)≤i∧i<2 ^ 62
def jY(da:DA):DI:=fun ρ P=>da ρ fun xs=>match xs with|[.int n]=>fM n∧P (oX 0 n.toNat)|_=>False
theorem sJ.aDT{K:PySem.W.Frag}{F H:Hp}{vs:List V}{n:Int}(r:sJ K F H vs [.int n]):vs=[.int n]:=by
 cases r with
 |cons r rr=>cases rr;rw [r.int]
theorem fV{da:DA}{p:Pos}(hg:Gl X "range")(hm:X.mg "range"=none)(ha:LAB X F0 H0 [a] da)(hs:starEach [a] X.env=[(false,eval a X.env)]:=by rfl):LI X F0 H0 tg (.Call (.Name "range" p) [a] [] pos) (jY da):=
 piW (pi_range1 hg hm ha hs) fun σ H R ⟨F,ρ,fps,P,E,q,k⟩=>⟨F,ρ,fps,_,E,q,fun xs hx F1 H1 v e1 r1=>by
  split at hx
  ·cases r1.aDT
   exact ⟨_,rfl,hx.1.1,hx.1.2,k _ hx.2 F1 H1 _ e1 avD.toB⟩
  ·exact False.elim hx⟩
def aAo(da:DA):DI:=fun ρ P=>da ρ fun xs=>match xs with|[.int m, .int n]=>(fM m∧fM n)∧P (oX m (n - m).toNat)|_=>False
def dW:D→Option (List D)
 | .lst xs=>some xs
 | .str z=>some (eO z)
 |_=>none
def adT(da:DA):DI:=fun ρ P=>da ρ fun vs=>match vs with
 |[x,y]=>(match dW x,dW y with|some xs,some ys=>P ((xs.zip ys).map fun p=> .tup [p.1,p.2])|_,_=>False)
 |_=>False
theorem yP{K:PySem.W.Frag}{F H F1:Hp}{v:V}{x:D}{xs:List D}{S:Src}(r:Rep K F v x)(e:Same F F1)(w:Same F1 H)(h:dW x=some xs)(so: ∃G,xJ K G v S):
  S.len K H xs.length∧ ∀i u y,S.has K H i u→xs[i]? =some y→Rep K F1 u y:=by
 obtain ⟨G,so⟩:=so
 cases r with
 |lst s z r=>
  cases h
  cases so with
  |ls s'=>
   refine ⟨⟨_,w.seq (e.seq s),r.length.symm⟩,fun i u y q1 hy=> ?_⟩
   obtain ⟨u',hu,ru⟩:=r.getD hy
   have:=q1 _ (w.seq (e.seq s))
   rw [hu] at this
   cases this
   exact ru.mono e
 |str z h1 h2=>
  cases h
  cases so with
  |tx _ t=>
   refine ⟨by simp [eO,Src.len,aZ],fun i u y ⟨c,q1,q2⟩ hy=> ?_⟩
   subst q2
   have hz:z[i]? =some c:=by simpa [aZ] using q1
   simp [eO,hz] at hy
   subst hy
   exact .str [c] (by show 1≤sizeLine;decide) (CJ h2 (List.mem_of_getElem? hz))
 |_=>cases h
theorem avE{K:PySem.W.Frag}{F G:Hp}{v w:V}{x y:D}{xs ys:List D}{S1 S2:Src}(r1:Rep K F v x)(r2:Rep K F w y)(h1:dW x=some xs)(h2:dW y=some ys)(s1:xJ K G v S1)(s2:xJ K G w S2):
  xG K F (avz K S1 S2) ((xs.zip ys).map fun p=> .tup [p.1,p.2]) where
 go:=fun H i e hi=>by
  have a1:=(yP r1 (.refl F) e h1 ⟨G,s1⟩).1
  have a2:=(yP r2 (.refl F) e h2 ⟨G,s2⟩).1
  simp at hi
  exact ⟨_,_,a1,a2,by omega,by omega⟩
 stop:=fun H e=>by
  have a1:=(yP r1 (.refl F) e h1 ⟨G,s1⟩).1
  have a2:=(yP r2 (.refl F) e h2 ⟨G,s2⟩).1
  refine ⟨_,_,a1,a2, ?_, ?_, ?_⟩<;>simp<;>omega
 yld:=fun F1 H i u H' z e1 e2 q hz=>by
  have a1:=(yP r1 e1 e2 h1 ⟨G,s1⟩).2
  have a2:=(yP r2 e1 e2 h2 ⟨G,s2⟩).2
  obtain ⟨T,u1,u2,rfl,nT,rfl,p1,p2⟩:=q
  simp only [List.getElem?_map] at hz
  cases hq:(xs.zip ys)[i]? with
  |none=>rw [hq] at hz;cases hz
  |some p=>
   rw [hq] at hz
   cases hz
   obtain ⟨g1,g2⟩:=List.getElem?_zip_eq_some.mp hq
   exact ⟨_, .new e2 nT,rB e2 nT (.cons (a1 _ _ _ p1 g1) (.cons (a2 _ _ _ p2 g2) .nil)) (by show 2≤sizeLine;decide)⟩
theorem afo{K:PySem.W.Frag}{F H:Hp}{v:V}{x:D}{xs:List D}(r:Rep K F v x)(e:Same F H)(h:dW x=some xs):(∃z,v= .str z)∨ ∃a vs,v= .ref a∧SqL K H a vs:=by
 cases r with
 |lst s z r=>exact .inr ⟨_,_,rfl,e.seq s⟩
 |str z h1 h2=>exact .inl ⟨_,rfl⟩
 |_=>cases h
theorem Qx{da:DA}{p tpos:Pos}{elts:List Expr}{kk:Nat}(hg:Gl X "zip")(hm:X.mg "zip"=none)(ha:LA X F0 H0 [a,b] da)
  (hs:starEach [a,b] X.env=(false,eval a X.env)::starEach [b] X.env:=by rfl) (hpl:(backTo pos (starEach [b] X.env)).any (·.1)=false:=by rfl):
  LI X F0 H0 (.Tuple elts kk tpos) (.Call (.Name "zip" p) [a,b] [] pos) (adT da):=
 piW (ao6 hg hm ha hs hpl) fun σ H R ⟨F,ρ,fps,P,E,q,k⟩=>⟨F,ρ,fps,_,E,q,fun vs hx F1 H1 us e1 r1=>by
  split at hx
  ·cases r1 with
   |cons r rr=>
    cases rr with
    |cons r' rr=>
     cases rr
     split at hx
     ·rename_i h1 h2
      exact ⟨_,_,rfl,afo r e1.w h1,afo r' e1.w h2,fun S1 S2 s1 s2=>k _ hx F1 H1 _ e1 (avE r r' h1 h2 s1 s2).toB⟩
     ·exact False.elim hx
  ·exact False.elim hx⟩
def ai4(da:DA):DI:=fun ρ P=>da ρ fun vs=>match vs with
 |[.lst xs]=>P ((List.range xs.length).zip xs |>.map fun p=> .tup [.int (p.1:Nat),p.2])
 |_=>False
theorem ao9{K:PySem.W.Frag}{F:Hp}{a:Addr}{vs:List V}{xs:List D}(s:SqL K F a vs)(r:aY K F vs xs):xG K F (Ite K a) ((List.range xs.length).zip xs |>.map fun p=> .tup [.int (p.1:Nat),p.2]) where
 go:=fun H i e hi=>by
  simp at hi
  have hv:i<vs.length:=by rw [r.length];exact hi
  exact ⟨vs,vs[i],e.seq s,by simp [hv]⟩
 stop:=fun H e=>⟨vs,e.seq s,by rw [r.length];simp⟩
 yld:=fun F1 H i v H' x e1 e2 y hx=>by
  obtain ⟨T,u,rfl,nT,rfl,y⟩:=y
  simp only [List.getElem?_map] at hx
  cases hq:((List.range xs.length).zip xs)[i]? with
  |none=>rw [hq] at hx;cases hx
  |some p=>
   rw [hq] at hx
   cases hx
   obtain ⟨g1,g2⟩:=List.getElem?_zip_eq_some.mp hq
   obtain ⟨u',hu,ru⟩:=r.getD g2
   have:=y vs (e2.seq (e1.seq s))
   rw [hu] at this
   cases this
   have hp:p.1=i:=by
    obtain ⟨h1,h2⟩:=List.getElem?_eq_some_iff.mp g1
    simpa using h2.symm
   subst hp
   exact ⟨_, .new e2 nT,rB e2 nT (.cons (.int _) (.cons (ru.mono e1) .nil)) (by show 2≤sizeLine;decide)⟩
theorem ao_{da:DA}{p tpos:Pos}{elts:List Expr}{kk:Nat}(hg:Gl X "enumerate")(hm:X.mg "enumerate"=none)(ha:LA X F0 H0 [a] da)(hs:starEach [a] X.env=[(false,eval a X.env)]:=by rfl):
  LI X F0 H0 (.Tuple elts kk tpos) (.Call (.Name "enumerate" p) [a] [] pos) (ai4 da):=
 piW (pi_enum hg hm ha hs) fun σ H R ⟨F,ρ,fps,P,E,q,k⟩=>⟨F,ρ,fps,_,E,q,fun vs hx F1 H1 us e1 r1=>by
  split at hx
  ·cases r1 with
   |cons r rr=>
    cases rr
    cases r with
    |lst s z r=>exact ⟨_,_,rfl,e1.w.seq s,k _ hx F1 H1 _ e1 (ao9 s r).toB⟩
  ·exact False.elim hx⟩
def eZ(ρ:Rh):List Nat→Rh
 |[]=>ρ
 |v::vs=>(eZ ρ vs).set v .no
theorem bJ.wipe{K:PySem.W.Frag}{F0 H0 F H:Hp}{σ:L2.St}{ρ:Rh}{fps:List (List Addr)}(R:bJ K F0 H0 F H σ ρ fps): ∀vs:List Nat, ∃fps',bJ K F0 H0 F H (L2.wipe σ vs) (eZ ρ vs) fps'
 |[]=>⟨fps,R⟩
 |v::vs=>by
  obtain ⟨fps',R'⟩:=bJ.wipe R vs
  exact ⟨fps'.set v [],R'.x,R'.s.set .no v,R'.p.set_nil v,R'.b⟩
theorem KY(σ:L2.St)(vs:List Nat):L2.wipe (L2.wipe σ vs) vs=L2.wipe σ vs:=
 Agr.wipe (is:=vs) (vs:=vs) ⟨L2.wipe_length σ vs,fun j h=>L2.wipe_out h⟩ fun _ h=>h
def lcD(vs:List Nat)(dg:DG)(dt:DT)(de:DE)(ρ:Rh):List D→(List D→Prop)→Prop
 |[],P=>P []
 |x::xs,P=>dg x (eZ ρ vs) fun ρ'=>dt ρ' fun b=>if b=true then de ρ' fun y=>lcD vs dg dt de ρ xs fun ys=>P (y::ys) else lcD vs dg dt de ρ xs P
def dLc(vs:List Nat)(di:DI)(dg:DG)(dt:DT)(de:DE):DE:=fun ρ P=>di ρ fun xs=>xs.length≤sizeLine∧lcD vs dg dt de ρ xs fun ys=>P (.lst ys)
def kZ:DT:=fun _ P=>P true
theorem dF:PTs X [] (Qo X.K F0 H0 kZ):=⟨fun pins s σ H Q I ⟨F,ρ,fps,P,E,q,k⟩=>pts_nil.run pins s σ H Q I (k _ q F H (.refl E.x.w))⟩
theorem Px{dt:DT}(h:LT X F0 H0 c dt):PTs X [c] (Qo X.K F0 H0 dt):=pts_one h
theorem ai5{vs is:List Nat}{wi:TI}{g:TG}{tt:TT}{te:TE}{di:DI}{dg:DG}{dt:DT}{de:DE}(hi: ∀σ H R,ao4 X.K F0 H0 di σ H R→wi σ H R)(hg:CK X.K g dg is)(his: ∀i∈is,i∈vs)
  (ht: ∀σ H Q,Qo X.K F0 H0 dt σ H Q→tt σ H Q) (he: ∀σ H Q,low X.K F0 H0 de σ H Q→te σ H Q): ∀σ H Q,low X.K F0 H0 (dLc vs di dg dt de) σ H Q→tLc wi g tt te vs σ H Q:=fun σ H Q ⟨F,ρ,fps,P,R,q,k⟩=>
 hi _ _ _ ⟨F,ρ,fps,_,R,q,fun xs ⟨hz,hx⟩ F1 H1 J e1 it A nA=>by
  have nF1:F1 A=none:=e1.w.free nA
  refine ⟨fun i m H2=>m=xs.length - i∧i≤xs.length∧ ∃F2 acc done,Ext F1 H1 F2 H2∧F2 A=none∧H2 A=some (.lst acc)∧aY X.K F2 acc done∧done.length≤i∧
   lcD vs dg dt de ρ (xs.drop i) fun ys=>P (.lst (done++ys)),⟨_,rfl,Nat.zero_le _,F1,[],[],Ext.adQ e1.w nA,nF1,upd_same, .nil,Nat.le_refl _,hx⟩, ?_⟩
  rintro i m H2 ⟨rfl,hi,F2,acc,done,e2,nF2,hA,ra,hl,q2⟩
  by_cases hlt:i<xs.length
  ·refine .inr ⟨it.go H2 i (e2.f.trans e2.w) (((R.ext e1).ext e2).x.n) hlt,fun H'=> ∃F2 acc done,Ext F1 H1 F2 H'∧F2 A=none∧H' A=some (.lst acc)∧aY X.K F2 acc done∧done.length≤i+1∧
    lcD vs dg dt de ρ (xs.drop (i+1)) fun ys=>P (.lst (done++ys)),fun H' n=>⟨_,by omega,rfl,hlt,n⟩,fun v H3 y=> ?_⟩
   have hx:xs[i]? =some xs[i]:=by simp [hlt]
   obtain ⟨F3,e3,r3⟩:=it.yld F2 H2 i v H3 _ e2.f e2.w (((R.ext e1).ext e2).x.n) y hx
   have ed:xs.drop i=xs[i]::xs.drop (i+1):=by simp
   rw [ed] at q2
   unfold lcD at q2
   have up: ∀{F4 H4:Hp},Ext F2 H2 F4 H4→F4 A=none∧H4 A=some (.lst acc):=fun e=>⟨by rw [e.o A (by rw [hA];simp)];exact nF2,e.h _ _ hA⟩
   obtain ⟨fpw,Rw⟩:=(((R.ext e1).ext e2).ext e3).wipe vs
   refine hg F0 H0 F3 H3 _ _ fpw v _ _ _ Rw r3 q2 fun ρ4 p4 σ4 fps4 ag R4=>⟨?_, ?_⟩
   ·have:=ag.wipe his
    rw [this]
    exact KY σ vs
   ·refine ht _ _ _ ⟨F3,ρ4,fps4,_,R4,p4,fun b hb F4 H4 e4=> ?_⟩
    cases b with
    |true=>
     rw [if_pos rfl] at hb ⊢
     refine he _ _ _ ⟨F4,ρ4,fps4,_,R4.ext e4,hb,fun z hzz F5 H5 u e5 r5=> ?_⟩
     obtain ⟨n5,h5⟩:=up ((e3.trans e4).trans e5)
     have e25:=(e3.trans e4).trans e5
     refine ⟨acc,h5,by rw [ra.length];omega,F5,acc++[u],done++[z], ?_,n5,upd_same,(ra.mono e25.f).append (.cons r5 .nil),by simp;omega, ?_⟩
     ·exact (e2.trans e25).aoQ nA n5 h5
     ·have:(fun ys=>P (.lst (done++[z]++ys)))=fun ys=>P (.lst (done++z::ys)):=by funext ys;simp
      rw [this];exact hzz
    |false=>
     rw [if_neg Bool.false_ne_true] at hb ⊢
     have e24:=e3.trans e4
     obtain ⟨n4,h4⟩:=up e24
     exact ⟨F4,acc,done,e2.trans e24,n4,h4,ra.mono e24.f,by omega,hb⟩
  ·have e:i=xs.length:=by omega
   subst e
   rw [List.drop_length] at q2
   refine .inl ⟨it.stop H2 (e2.f.trans e2.w) (((R.ext e1).ext e2).x.n), ?_⟩
   unfold lcD at q2
   rw [List.append_nil] at q2
   have s2:Same F2 (upd F2 A (.lst acc)):=aN nF2
   refine k _ q2 (upd F2 A (.lst acc)) H2 _ (e1.trans (e2.ahB nA nF2 hA)) (.lst (.of upd_same) (by omega) (ra.mono s2))⟩
end
end DL
end
section
namespace DL
open PySem L2
variable[bG]
section
variable{X:Cx}{F0 H0:Hp}{e a b c tg o:Expr}{es:List Expr}{pos p apos:Pos}{x m:Str}
theorem jZ{elt iter:Expr}{ifs:List Expr}{scope:Scope}{own:List (Str×Nat)}{is:List Nat}{g:TG}{di:DI}{dg:DG}{dt:DT}{de:DE}(hc:X.calm=true)(hN:X.N.Nodup)(hi:LI X F0 H0 tg iter di)(ok:BlkOk X.N X.env.scope scope own)
  (pg: ∀(s:Shared) (H:Hp) (C:Addr) (cl:List (Str×Addr)) (fp:List Addr),PG (X.blk s H scope (compEnvC scope cl C X.env) fp) tg g) (hg:CK X.K g dg is) (his:(is.all fun i=>(own.map (·.2)).contains i)=true)
  (ht: ∀(s:Shared) (H:Hp) (C:Addr) (cl:List (Str×Addr)) (fp:List Addr),PTs (X.blk s H scope (compEnvC scope cl C X.env) fp) ifs (Qo X.K F0 H0 dt))
  (he: ∀(s:Shared) (H:Hp) (C:Addr) (cl:List (Str×Addr)) (fp:List Addr),LE (X.blk s H scope (compEnvC scope cl C X.env) fp) F0 H0 elt de) (hs: ∀x,foldedSetIterable iter X.env x=pure x:=by intro _;rfl):
  LE X F0 H0 (.ListComp elt [⟨tg,iter,ifs,0⟩] scope pos) (dLc (own.map (·.2)) di dg dt de):=
 peW (pe_lc hc hN hi ok pg ht he hs) (ai5 (fun _ _ _ q=>q) hg (fun i hi=>by simpa using List.all_eq_true.mp his i hi) (fun _ _ _ q=>q) fun _ _ _ q=>q)
theorem rC{i:Nat}{y:Str}{py spos:Pos}{elt iter:Expr}{ifs:List Expr}{scope:Scope}{own:List (Str×Nat)}{is:List Nat}{g:TG}{di:DI}{dg:DG}{dt:DT}{de:DE}(hc:X.calm=true)(hN:X.N.Nodup)(hy:X.N[i]? =some y)(hyl:X.env.scope.names.lookup y=some .local)
  (hsw:swapsWith (.ListComp elt [⟨tg,iter,ifs,0⟩] scope pos) (some (.Name y py)) spos.line X.env=pure true) (hi:LI X F0 H0 tg iter di) (ok:BlkOk X.N X.env.scope scope own)
  (pg: ∀(s:Shared) (H:Hp) (C:Addr) (cl:List (Str×Addr)) (fp:List Addr),PG (X.blk s H scope (compEnvC scope cl C X.env) fp) tg g) (hg:CK X.K g dg is) (his:(is.all fun i=>(own.map (·.2)).contains i)=true)
  (ht: ∀(s:Shared) (H:Hp) (C:Addr) (cl:List (Str×Addr)) (fp:List Addr),PTs (X.blk s H scope (compEnvC scope cl C X.env) fp) ifs (Qo X.K F0 H0 dt))
  (he: ∀(s:Shared) (H:Hp) (C:Addr) (cl:List (Str×Addr)) (fp:List Addr),LE (X.blk s H scope (compEnvC scope cl C X.env) fp) F0 H0 elt de) (hs: ∀x,foldedSetIterable iter X.env x=pure x:=by intro _;rfl):
  LS X F0 H0 (.Assign [.Name y py] (.ListComp elt [⟨tg,iter,ifs,0⟩] scope pos) spos) (bW (dLc (own.map (·.2)) di dg dt de) (dgN i)):=
 psW (ps_setLc hc hN hy hyl hsw hi ok pg ht he hs) (afm aP (ai5 (fun _ _ _ q=>q) hg (fun i hi=>by simpa using List.all_eq_true.mp his i hi) (fun _ _ _ q=>q) fun _ _ _ q=>q))
abbrev bK:=List D→(D→Prop)→Prop
def bZ(K:PySem.W.Frag)(S:bK):Sp:=fun vs H Q _=> ∃F ds P,(Same F H∧pK F H)∧aY K F vs ds∧S ds P∧ ∀x,P x→ ∀F' H' v,Ext F H F' H'→Rep K F' v x→Q v H'
def cJ(S:bK)(da:DA):DE:=fun ρ P=>da ρ fun xs=>S xs P
section
variable{CX:CXT}{k:Nat}{f C:Addr}{fd:FuncData}{ps:List Str}{S:bK}{E:XK}
theorem apa{da:DA}(F:FnOk X.prog X.w X.K X.mg X.base CX k f fd ps (bZ X.K S))(hr:Room k X.A)(hg:Gl X x)(hm:X.mg x=some (.ref f))(hk:PySem.W.keepIn X.K (.ref f)=true)(hb:Binds X.K fd ps [])(hx:Passes CX X E)
  (ha:LA X F0 H0 (e::es) da) (hdb:(x==("__debug__":Str))=false:=by decide) (he:starEach (e::es) X.env=(false,eval e X.env)::starEach es X.env:=by rfl) (hpl:(backTo pos (starEach es X.env)).any (·.1)=false:=by rfl):
  LE X F0 H0 (.Call (.Name x p) (e::es) [] pos) (cJ S da):=
 peW (pe_call F hr hg hm hk hb .nil hx ha hdb he hpl) fun σ H Q ⟨F,ρ,fps,P,E,q,k⟩=>⟨F,ρ,fps,_,E,q,fun xs hx F1 H1 vs e1 r1=>
  ⟨F1,xs,P,(E.ext e1).sm,by rw [List.append_nil];exact r1,hx,fun z pz F2 H2 u e2 r2=>k z pz F2 H2 u (e1.trans e2) r2⟩⟩
end
abbrev rD:=Addr→bK→Prop
structure cM(P:Program)(w:World)(K:PySem.W.Frag)(mg:Str→Option Value)(base:Heap)(CX:CXT)(k:Nat)(m:Str)(C:Addr)(S:bK):Prop where
 cl:Cls K C
 ex: ∃f fd ps,Meth K C m f∧FnOk P w K mg base CX k f fd ps (bZ K S)∧Binds K fd ps []
def gj(M:rD)(m:Str)(da:DE)(dr:DA):DE:=fun ρ P=>da ρ fun x=>match x with| .obj C gs=>gs.lookup m=none∧ ∃S,M C S∧dr ρ fun xs=>S (.obj C gs::xs) P|_=>False
section
variable{CX:CXT}{k:Nat}{E:XK}{M:rD}
theorem dH{pl:Sem Bool}{da:DE}{dr:DA}(ho:LE X F0 H0 o da)(hM: ∀C S,M C S→cM X.prog X.w X.K X.mg X.base CX k m C S)(hr:Room k X.A)(hx:Passes CX X E)(ha:LA X F0 H0 (e::es) dr)
  (hst:starEach (e::es) X.env=(false,eval e X.env)::starEach es X.env:=by rfl) (hpl:(backTo pos (starEach es X.env)).any (·.1)=false:=by rfl)
  (ht:eval (.Call (.Attribute o m apos) (e::es) [] pos) X.env=(do
   let ov←eval o X.env
   standAt apos.atName
   let (f,first)←holding [ov] (getMethod ov m pl)
   callWith pos f first (backTo pos (starEach (e::es) X.env)) (backToKw pos (keywordEach [] X.env))):=by rfl):
  LE X F0 H0 (.Call (.Attribute o m apos) (e::es) [] pos) (gj M m da dr):=by
 refine ⟨fun pins s σ H Q I ⟨F,ρ,fps,P,R,q,kk⟩=> ?_⟩
 refine PySem.W.methodCall_KW (pl:=pl) (thn (ho.run pins s σ H (fun v H1=> ∃F1 x,Ext F H F1 H1∧Rep X.K F1 v x∧(match x with| .obj C gs=>gs.lookup m=none∧ ∃S,M C S∧dr ρ fun xs=>S (.obj C gs::xs) P|_=>False)) I
  ⟨F,ρ,fps,_,R,q,fun x hx F1 H1 v e1 r1=>⟨F1,x,e1,r1,hx⟩⟩) fun u s1 ⟨v,H1,I1,rx,F1,x,e1,r1,hxx⟩=> ?_) ht
 cases r1 with
 |obj h1 rf=>
  obtain ⟨hl,S,hS,q2⟩:=hxx
  obtain ⟨c,f,fd,ps,hm,FF,hb⟩:=hM _ _ hS
  cases rx
  refine getmeth_ok I1 (e1.w _ _ h1) c hm (rf.look_none hl) ?_
  refine PySem.W.callWith_K (first:=[.ref _]) (h₀:=X.base) I.ok.mod.kin hm.kp (thn (ha.run pos pins s1 σ H1 (fun vs H2=>bZ X.K S (.ref _::vs) H2 Q E) I1 ⟨F1,ρ,fps,_,R.ext e1,q2,fun xs hxs F2 H2 vs e2 r2=>
   ⟨F2,_,P,((R.ext e1).ext e2).sm, .cons (.obj (e2.f _ _ h1) (rf.mono e2.f)) r2,hxs,fun z pz F3 H3 u e3 r3=>kk z pz F3 H3 u ((e1.trans e2).trans e3) r3⟩⟩) fun us s2 ⟨vs,H2,I2,r,q2⟩=>⟨I2.kIn, ?_⟩) hst hpl
  exact run_fn (us:= .ref _::us) (vs:= .ref _::vs) (dvs:=[]) FF hr hb .nil hx I2 (.cons rfl r) (by rw [List.append_nil];exact q2)
 |_=>exact False.elim hxx
theorem ai6{pl:Sem Bool}{da:DE}(ho:LE X F0 H0 o da)(hM: ∀C S,M C S→cM X.prog X.w X.K X.mg X.base CX k m C S)(hr:Room k X.A)(hx:Passes CX X E)
  (ht:eval (.Call (.Attribute o m apos) [] [] pos) X.env=(do
   let ov←eval o X.env
   standAt apos.atName
   let (f,first)←holding [ov] (getMethod ov m pl)
   callWith pos f first (backTo pos (starEach [] X.env)) (backToKw pos (keywordEach [] X.env))):=by rfl):
  LE X F0 H0 (.Call (.Attribute o m apos) [] [] pos) (gj M m da aF):=by
 refine ⟨fun pins s σ H Q I ⟨F,ρ,fps,P,R,q,kk⟩=> ?_⟩
 refine PySem.W.methodCall_KW (pl:=pl) (thn (ho.run pins s σ H (fun v H1=> ∃F1 x,Ext F H F1 H1∧Rep X.K F1 v x∧(match x with| .obj C gs=>gs.lookup m=none∧ ∃S,M C S∧S [.obj C gs] P|_=>False)) I
  ⟨F,ρ,fps,_,R,q,fun x hx F1 H1 v e1 r1=>⟨F1,x,e1,r1,hx⟩⟩) fun u s1 ⟨v,H1,I1,rx,F1,x,e1,r1,hxx⟩=> ?_) ht
 cases r1 with
 |obj h1 rf=>
  obtain ⟨hl,S,hS,q2⟩:=hxx
  obtain ⟨c,f,fd,ps,hm,FF,hb⟩:=hM _ _ hS
  cases rx
  refine getmeth_ok I1 (e1.w _ _ h1) c hm (rf.look_none hl) ?_
  exact PySem.W.callWith_K0 (first:=[.ref _]) I1.kIn hm.kp (run_fn (us:=[.ref _]) (vs:=[.ref _]) (dvs:=[]) FF hr hb .nil hx I1 (.cons rfl .nil)
   ⟨F1,_,P,(R.ext e1).sm, .cons (.obj h1 rf) .nil,q2,fun z pz F3 H3 u e3 r3=>kk z pz F3 H3 u (e1.trans e3) r3⟩)
 |_=>exact False.elim hxx
end
def aX(T:Addr→Prop)(da:DE)(f:Str):DE:=fun ρ P=>da ρ fun x=>match x with| .obj C gs=>T C∧(match gs.lookup f with|some d=>P d|none=>False)|_=>False
theorem aK{T:Addr→Prop}{da:DE}{f:Str}(h:LB X F0 H0 e da)(hC: ∀C,T C→Cls X.K C∧NoAttr X.K C f)(hb:attributeBase e f X.env (eval e X.env)=eval e X.env:=by rfl):LE X F0 H0 (.Attribute e f pos) (aX T da f):=
 peW (pe_fld h hb) fun σ H Q ⟨F,ρ,fps,P,E,q,k⟩=>⟨F,ρ,fps,_,E,q,fun x hx F1 H1 v e1 r1=>by
  cases x with
  |obj C gs=>
   obtain ⟨hT,hx⟩:=hx
   obtain ⟨c,n⟩:=hC C hT
   obtain ⟨a,dx,fs,rfl,h1,rf⟩: ∃a dx fs,v= .ref a∧H1 a=some (.ins C dx fs)∧jN X.K F1 fs gs:=by
    rcases r1 with r1|⟨fp,r1,nt⟩
    ·cases r1 with|obj h r=>exact ⟨_,_,_,rfl,e1.w _ _ h,r⟩
    ·cases r1 with|obj h r n=>exact ⟨_,_,_,rfl,h,r⟩
   cases hl:gs.lookup f with
   |none=>rw [hl] at hx;exact False.elim hx
   |some d=>
    rw [hl] at hx
    obtain ⟨u,h2,h3⟩:=rf.look hl
    exact ⟨a,C,dx,fs,u,rfl,h1,c,n,h2,k _ hx F1 H1 u e1 h3⟩
  |_=>exact False.elim hx⟩
end
end DL
end
section
namespace DL
open PySem L2
variable[bG]
section
variable{X:Cx}{F0 H0:Hp}{e a b c tg o:Expr}{es:List Expr}{pos p apos:Pos}{x m:Str}
theorem lO{fps:List (List Addr)}{i:Nat}{l:List Addr}{a:Addr}(h:a∈(fps.set i l).flatten):a∈fps.flatten∨a∈l:=by
 rw [List.mem_flatten] at h
 obtain ⟨g,h1,h2⟩:=h
 rcases List.mem_or_eq_of_mem_set h1 with q|q
 ·exact .inl (List.mem_flatten.mpr ⟨g,q,h2⟩)
 ·subst q;exact .inr h2
theorem m9{fps:List (List Addr)}{i:Nat}{l:List Addr}(h:fps.flatten.Nodup)(hl:l.Nodup)(d: ∀a∈l,a∉fps.flatten):(fps.set i l).flatten.Nodup:=by
 induction fps generalizing i with
 |nil=>simpa using h
 |cons g r ih=>
  rw [List.flatten_cons,List.nodup_append] at h
  obtain ⟨h1,h2,h3⟩:=h
  cases i with
  |zero=>
   rw [List.set_cons_zero,List.flatten_cons,List.nodup_append]
   exact ⟨hl,h2,fun a ha b hb e=>d a ha (by rw [List.flatten_cons,List.mem_append];subst e;exact .inr hb)⟩
  |succ i=>
   rw [List.set_cons_succ,List.flatten_cons,List.nodup_append]
   refine ⟨h1,ih h2 fun a ha hm=>d a ha (by rw [List.flatten_cons,List.mem_append];exact .inr hm),fun a ha b hb e=> ?_⟩
   subst e
   rcases lO hb with q|q
   ·exact h3 a ha a q rfl
   ·exact d a q (by rw [List.flatten_cons,List.mem_append];exact .inl ha)
theorem oY{K:PySem.W.Frag}{F0 H0:Hp}{F H:Hp}: ∀{σ:L2.St} {ρ:Rh} {fps:List (List Addr)},bB K F0 H0 F H σ ρ fps→ ∀a∈fps.flatten,F a=none∧H a≠none
 |_,_,_, .nil,a,h=>by simp at h
 |_,_,_, .cons q r,a,h=>by
  rw [List.flatten_cons,List.mem_append] at h
  rcases h with h|h
  ·cases q with
   |no=>simp at h
   |sh=>simp at h
   |bo=>simp at h
   |bg=>simp at h
   |dk h1 r1 n1=>
    simp at h
    subst h
    exact ⟨n1,by rw [h1];simp⟩
   |nl h1 q1 z1 n1=>
    rcases List.mem_cons.mp h with e|e
    ·subst e;exact ⟨n1,by rw [h1];simp⟩
    ·exact q1.none a e
   |gn h1 _=>exact h1.none a h
   |ow o=>exact o.none a h
  ·exact oY r a h
theorem Qy{K:PySem.W.Frag}{F0 H0:Hp}{F H:Hp}: ∀{σ:L2.St} {ρ:Rh} {fps:List (List Addr)},bB K F0 H0 F H σ ρ fps→ ∀a∈fps.flatten,NTb H a
 |_,_,_, .nil,a,h=>by simp at h
 |_,_,_, .cons q r,a,h=>by
  rw [List.flatten_cons,List.mem_append] at h
  rcases h with h|h
  ·cases q with
   |no=>simp at h
   |sh=>simp at h
   |bo=>simp at h
   |bg=>simp at h
   |dk h1 r1 n1=>
    simp at h
    subst h
    intro u hu;rw [h1] at hu;cases hu;exact ⟨fun _ z=>(by cases z),fun _ _ z=>(by unfold LamX.CodeO at z;cases z)⟩
   |nl h1 q1 z1 n1=>
    rcases List.mem_cons.mp h with e|e
    ·subst e;intro u hu;rw [h1] at hu;cases hu;exact ⟨fun _ z=>(by cases z),fun _ _ z=>(by unfold LamX.CodeO at z;cases z)⟩
    ·exact q1.nt a e
   |gn h1 _=>exact h1.nt a h
   |ow o=>exact o.nt a h
  ·exact Qy r a h
theorem bJ.afp{K:PySem.W.Frag}{F0 H0 F H:Hp}{σ:L2.St}{ρ:Rh}{fps:List (List Addr)}{a:Addr}{u:HO}(R:bJ K F0 H0 F H σ ρ fps)(ha:a∈fps.flatten)(nk: ∀ks:List Key,u≠ .tup (ks.map kV):=by intro _ z;cases z):Ext F0 H0 F (upd H a u)∧pK F (upd H a u):=
 ⟨R.x.aAi (R.p.new a ha) (oY R.s a ha).1 (Qy R.s a ha) nk,abi R.b (Qy R.s a ha) nk⟩
theorem bJ.aAp{K:PySem.W.Frag}{F0 H0 F H:Hp}{σ:L2.St}{ρ:Rh}{fps:List (List Addr)}{a:Addr}{u:HO}(R:bJ K F0 H0 F H σ ρ fps)(ha:a∈fps.flatten)(g:H a=some u):Ext F0 H0 (upd F a u) H:=
 R.x.ahB (R.p.new a ha) (oY R.s a ha).1 g
theorem bJ.avF{K:PySem.W.Frag}{F0 H0 F H F' H':Hp}{σ:L2.St}{ρ:Rh}{fps:List (List Addr)}{v:V}{x:D}{fp:List Addr}(R:bJ K F0 H0 F H σ ρ fps)(e:Ext F H F' H')(o:Own K F' H' v x fp)(nd:fp.Nodup)(nf: ∀a∈fp,H a=none)(i:Nat):
  bJ K F0 H0 F' H' (σ.set i (some v)) (ρ.set i (.ow x)) (fps.set i fp):=by
 have R':=R.ext e
 refine ⟨R'.x,R'.s.set (.ow o) i,⟨m9 R.p.nd nd fun a ha hm=>(oY R.s a hm).2 (nf a ha),fun a ha=> ?_⟩,R'.b⟩
 rcases lO ha with q|q
 ·exact R.p.new a q
 ·exact R.x.free (nf a q)
def aAq(K:PySem.W.Frag)(F0 H0:Hp)(d:DE):TE:=fun σ H Q=> ∃F ρ fps P,bJ K F0 H0 F H σ ρ fps∧d ρ P∧ ∀x,P x→ ∀F' H' v fp,Ext F H F' H'→Own K F' H' v x fp→fp.Nodup→(∀a∈fp,H a=none)→Q v H'
abbrev LN(X:Cx)(F0 H0:Hp)(e:Expr)(d:DE):Prop:=PE X e (aAq X.K F0 H0 d)
theorem l_{es:List Expr}{da:DA}(h:LA X F0 H0 es da):LN X F0 H0 (.List es pos) (iW da):=
 peW (pe_lst h) fun σ H Q ⟨F,ρ,fps,P,E,q,k⟩=>⟨F,ρ,fps,_,E,q,fun xs hx F1 H1 vs e1 r1=>
  ⟨by rw [r1.length];exact hx.1,fun p hp=>by
   have nF:=e1.w.free hp
   refine k _ hx.2 F1 _ _ [p] (e1.trans (.adQ e1.w hp)) (.lst upd_same r1 hx.1 nF) (by simp) fun a ha=> ?_
   simp at ha;subst ha
   exact e1.free hp⟩⟩
def pM(i:Nat)(da:DE):DS:=fun E ρ=>da ρ fun x=>E.nx (ρ.set i (.ow x))
theorem jO{i:Nat}{da:DE}(h: ∀te,PE X e te→PS X (.Assign [tg] e pos) (tAsg te (gName i)))(he:LN X F0 H0 e da):LS X F0 H0 (.Assign [tg] e pos) (pM i da):=
 psW (h _ he) fun D σ H ⟨F,ρ,fps,E,R,q,k⟩=>⟨F,ρ,fps,_,R,q,fun x hx F1 H1 v fp e1 o nd nf=>k.nx F1 H1 _ _ _ e1.f (R.avF e1 o nd nf i) hx⟩
def vM(i:Nat)(da:DE):DS:=fun E ρ=>match ρ[i]? with|some (.ow (.lst xs))=>da ρ fun y=>xs.length<sizeLine∧E.nx (ρ.set i (.ow (.lst (xs++[y]))))|_=>False
theorem bB.avG{K:PySem.W.Frag}{F0 H0:Hp}{F H:Hp}{a:Addr}{u:HO}: ∀{σ:L2.St} {ρ:Rh} {fps:List (List Addr)} {i:Nat} {v:V} {x y:D},bB K F0 H0 F H σ ρ fps→fps.flatten.Nodup→fps[i]? =some [a]→σ[i]? =some (some v)→Own K F (upd H a u) v y [a]→
  bB K F0 H0 F (upd H a u) σ (ρ.set i (.ow y)) fps:=by
 have keep: ∀{σ:L2.St} {ρ:Rh} {fps:List (List Addr)},bB K F0 H0 F H σ ρ fps→a∉fps.flatten→bB K F0 H0 F (upd H a u) σ ρ fps:=by
  intro σ ρ fps h
  induction h with
  |nil=>intro _;exact .nil
  |cons q r ih=>
   intro n
   rw [List.flatten_cons,List.mem_append,not_or] at n
   refine .cons ?_ (ih n.2)
   cases q with
   |no=>exact .no
   |sh r=>exact .sh r
   |bo r=>exact .bo r
   |bg r nn=>exact .bg r nn
   |dk h r f=>exact .dk (by rw [upd_ne (fun e=>n.1 (by simp [e]))];exact h) r f
   |nl h q z f=>
    have m:=n.1
    rw [List.mem_cons,not_or] at m
    exact .nl (by rw [upd_ne (fun e=>m.1 e.symm)];exact h) (q.t_ m.2) z f
   |gn h q=>exact .gn (h.t_ n.1) q
   |ow o=>
    exact .ow (o.t_ n.1)
 intro σ ρ fps i v x y h
 induction h generalizing i with
 |nil=>intro _ h;simp at h
 |cons q r ih=>
  intro nd h1 h2 o
  rw [List.flatten_cons,List.nodup_append] at nd
  cases i with
  |zero=>
   simp at h1 h2
   subst h1
   rw [h2]
   exact .cons (.ow o) (keep r fun hm=>nd.2.2 a (by simp) a hm rfl)
  |succ i=>
   simp at h1 h2
   refine .cons ?_ (ih nd.2.1 h1 h2 o)
   have n:a∉_:=fun hm=>nd.2.2 a hm a (List.mem_flatten.mpr ⟨_,List.mem_of_getElem? h1,by simp⟩) rfl
   cases q with
   |no=>exact .no
   |sh r=>exact .sh r
   |bo r=>exact .bo r
   |bg r nn=>exact .bg r nn
   |dk h r f=>exact .dk (by rw [upd_ne (fun e=>n (by simp [e]))];exact h) r f
   |nl h q z f=>
    have m:=n
    rw [List.mem_cons,not_or] at m
    exact .nl (by rw [upd_ne (fun e=>m.1 e.symm)];exact h) (q.t_ m.2) z f
   |gn h q=>exact .gn (h.t_ n) q
   |ow o=>
    exact .ow (o.t_ n)
theorem bJ.avH{K:PySem.W.Frag}{F0 H0 F H:Hp}{σ:L2.St}{ρ:Rh}{fps:List (List Addr)}{i:Nat}{a:Addr}{v:V}{y:D}{u:HO}(R:bJ K F0 H0 F H σ ρ fps)(h1:fps[i]? =some [a])(h2:σ[i]? =some (some v))(o:Own K F (upd H a u) v y [a])(nk: ∀ks:List Key,u≠ .tup (ks.map kV):=by intro _ z;cases z):
  bJ K F0 H0 F (upd H a u) σ (ρ.set i (.ow y)) fps:=by
 have ha:a∈fps.flatten:=List.mem_flatten.mpr ⟨_,List.mem_of_getElem? h1,by simp⟩
 exact ⟨(R.afp ha nk).1,R.s.avG (x:=y) R.p.nd h1 h2 o,R.p,(R.afp ha nk).2⟩
theorem mj{i:Nat}{o:Expr}{da:DE}(ho:PE X o (tVar i))(ha:LE X F0 H0 a da)(h: ∀te,PE X a te→PE X (.Call (.Attribute o "append" apos) [a] [] p) (tBM X.K "list" rAppend (tVar i) (tCons te tNil)))
  (hs:swapsWith (.Call (.Attribute o "append" apos) [a] [] p) none pos.line X.env=pure false:=by rfl):LS X F0 H0 (.Expr (.Call (.Attribute o "append" apos) [a] [] p) pos) (vM i da):=
 psW (ps_expr (h _ ha) hs) fun D σ H ⟨F,ρ,fps,E,R,q,k⟩=>by
  have look: ∀xs,ρ[i]? =some (.ow (.lst xs))→ ∃l vs,σ[i]? =some (some (.ref l))∧fps[i]? =some [l]∧H l=some (.lst vs)∧aY X.K F vs xs:=fun xs h=>by
   obtain ⟨x,fp,h1,h2,h3⟩:=R.s.get h
   cases h3 with
   |ow o=>cases o with|lst g r z n=>exact ⟨_,_,h1,h2,g,r⟩
  unfold vM at q
  split at q
  ·rename_i xs hr
   obtain ⟨l,vs,h1,h2,h3,h4⟩:=look xs hr
   refine ⟨_,h1, .inl ⟨rfl,vs, .of h3⟩,F,ρ,fps,_,R,q,fun y hy F1 H1 v e1 r1=> ?_⟩
   have R1:=R.ext e1
   have g1:=e1.h _ _ h3
   refine ⟨l,vs,v,rfl,rfl,g1,by rw [h4.length];exact hy.1,k.nx F1 _ _ _ _ e1.f (R1.avH h2 h1 (.lst upd_same ((h4.mono e1.f).append (.cons r1 .nil)) (by have:=hy.1;simp;omega) ?_)) hy.2⟩
   rw [e1.o l (by rw [h3];simp)]
   exact (oY R.s l (List.mem_flatten.mpr ⟨_,List.mem_of_getElem? h2,by simp⟩)).1
  ·exact q.elim
def zj(i:Nat)(d:DS):DS:=fun E ρ=>match ρ[i]? with|some (.ow x)=>Qn x∧d E (ρ.set i (.sh x))|_=>False
theorem jt.frz{K:PySem.W.Frag}{F0 H0:Hp}{F H:Hp}{a:Addr}{u:HO}{x:Option V}{s:Sl}{fp:List Addr}(nF:F a=none)(h:jt K F0 H0 F H x s fp)(n:a∉fp):jt K F0 H0 (upd F a u) H x s fp:=by
 have sm:Same F (upd F a u):=aN nF
 cases h with
 |no=>exact .no
 |sh r=>exact .sh (r.mono sm)
 |bo r=>exact .bo r
 |bg r nn=>exact .bg r nn
 |dk h r f=>exact .dk h (r.mono sm) (by rw [upd_ne (fun e=>n (by simp [e]))];exact f)
 |nl h q z f=>
  rw [List.mem_cons,not_or] at n
  exact .nl h (q.abj nF n.2) z (by rw [upd_ne (fun e=>n.1 e.symm)];exact f)
 |gn h q=>exact .gn (h.abj nF n) q
 |ow o=>
  exact .ow (o.abj nF n)
theorem bB.frz{K:PySem.W.Frag}{F0 H0:Hp}{F H:Hp}{a:Addr}{u:HO}(nF:F a=none): ∀{σ:L2.St} {ρ:Rh} {fps:List (List Addr)},bB K F0 H0 F H σ ρ fps→a∉fps.flatten→bB K F0 H0 (upd F a u) H σ ρ fps
 |_,_,_, .nil,_=> .nil
 |_,_,_, .cons q r,n=>by
  rw [List.flatten_cons,List.mem_append,not_or] at n
  exact .cons (q.frz nF n.1) (r.frz nF n.2)
theorem bB.avI{K:PySem.W.Frag}{F0 H0:Hp}{F H:Hp}{a:Addr}{u:HO}(nF:F a=none): ∀{σ:L2.St} {ρ:Rh} {fps:List (List Addr)} {i:Nat} {v:V} {y:D},bB K F0 H0 F H σ ρ fps→fps.flatten.Nodup→fps[i]? =some [a]→σ[i]? =some (some v)→Rep K (upd F a u) v y→
  bB K F0 H0 (upd F a u) H σ (ρ.set i (.sh y)) (fps.set i []):=by
 intro σ ρ fps i v y h
 induction h generalizing i with
 |nil=>intro _ h;simp at h
 |cons q r ih=>
  intro nd h1 h2 o
  rw [List.flatten_cons,List.nodup_append] at nd
  cases i with
  |zero=>
   simp at h1 h2
   subst h1
   rw [h2]
   exact .cons (.sh o) (r.frz nF fun hm=>nd.2.2 a (by simp) a hm rfl)
  |succ i=>
   simp at h1 h2
   exact .cons (q.frz nF fun hm=>nd.2.2 a hm a (List.mem_flatten.mpr ⟨_,List.mem_of_getElem? h1,by simp⟩) rfl) (ih nd.2.1 h1 h2 o)
theorem bJ.frz{K:PySem.W.Frag}{F0 H0 F H:Hp}{σ:L2.St}{ρ:Rh}{fps:List (List Addr)}{i:Nat}{x:D}(R:bJ K F0 H0 F H σ ρ fps)(nt:Qn x)(h:ρ[i]? =some (.ow x)):
  ∃F',Same F F'∧bJ K F0 H0 F' H σ (ρ.set i (.sh x)) (fps.set i []):=by
 obtain ⟨y,fp,h1,h2,h3⟩:=R.s.get h
 have fin: ∀(a:Addr) (u:HO) (v:V),H a=some u→F a=none→y=some v→fp=[a]→Rep K (upd F a u) v x→ ∃F',Same F F'∧bJ K F0 H0 F' H σ (ρ.set i (.sh x)) (fps.set i []):=fun a u v g nF hy hf r=>by
  subst hy hf
  have ha:a∈fps.flatten:=List.mem_flatten.mpr ⟨_,List.mem_of_getElem? h2,by simp⟩
  exact ⟨upd F a u,aN nF,R.aAp ha g,R.s.avI nF R.p.nd h2 h1 r,R.p.set_nil i,aiL R.b [a] (fun b hb=>by rw [List.mem_singleton.mp hb];exact Qy R.s a ha) (fun b hb=>upd_ne fun z=>hb (by rw [z];exact List.mem_singleton.mpr rfl)) (aN nF)⟩
 cases h3 with
 |ow o=>
  cases o with
  |lst g r z n=>exact fin _ _ _ g n rfl rfl (.lst (.of upd_same) z (r.mono (aN n)))
  |obj g r n=>exact fin _ _ _ g n rfl rfl (.obj upd_same (r.mono (aN n)))
  |dct g k o r n=>exact fin _ _ _ g n rfl rfl (.dct upd_same k o (r.mono (aN n)))
  |nct w g k b r n=>exact fin _ _ _ g n rfl rfl (.nct w upd_same k (b.mono (aN n)) (r.mono (aN n)))
  |tup=>exact nt.elim
theorem lQ{i:Nat}{st:List Stmt}{d:DS}(h:LSs X F0 H0 st d):LSs X F0 H0 st (zj i d):=
 aiM h fun D σ H ⟨F,ρ,fps,E,R,q,k⟩=>by
  unfold zj at q
  split at q
  ·rename_i x hr
   obtain ⟨F',s,R'⟩:=R.frz q.1 hr
   exact ⟨F',_,_,E,R',q.2,k.mono s⟩
  ·exact q.elim
abbrev d9:=List D→(List (Str×D)→Prop)→Prop
def j5(K:PySem.W.Frag)(C:Addr)(S:d9):Sp:=fun vs H Q _=> ∃F H1 x dx vs' ds P,vs= .ref x::vs'∧H=upd (upd H1 dx (.own x)) x (.ins C dx [])∧H1 x=none∧H1 dx=none∧dx≠x∧(Same F H1∧pK F H1)∧aY K F vs' ds∧S ds P∧
 ∀gs,P gs→ ∀F' H',Ext F H1 F' H'→Rep K F' (.ref x) (.obj C gs)→Q .non H'
def qH(C:Addr)(S:d9)(da:DA):DE:=fun ρ P=>da ρ fun xs=>S xs fun gs=>P (.obj C gs)
section
variable{CX:CXT}{k:Nat}{f C:Addr}{fd:FuncData}{ps:List Str}{S:d9}{E:XK}
theorem apb{da:DA}(M:Mk X.K C f)(F:FnOk X.prog X.w X.K X.mg X.base CX k f fd ps (j5 X.K C S))(hr:Room (k+1) X.A)(hg:Gl X x)(hm:X.mg x=some (.ref C))(hb:Binds X.K fd ps [])(hx:Passes CX X E)
  (ha:LA X F0 H0 (e::es) da) (hdb:(x==("__debug__":Str))=false:=by decide) (he:starEach (e::es) X.env=(false,eval e X.env)::starEach es X.env:=by rfl) (hpl:(backTo pos (starEach es X.env)).any (·.1)=false:=by rfl):
  LE X F0 H0 (.Call (.Name x p) (e::es) [] pos) (qH C S da):=
 peW (pe_make M F hr hg hm hb .nil hx ha hdb he hpl) fun σ H Q ⟨F,ρ,fps,P,R,q,kk⟩=>⟨F,ρ,fps,_,R,q,fun xs hxs F1 H1 vs e1 r1 x dx nx ndx ne=>
  ⟨F1,H1,x,dx,vs,xs,_,by rw [List.append_nil],rfl,nx,ndx,ne,⟨e1.w,(R.ext e1).b⟩,r1,hxs,fun gs hgs F2 H2 e2 r2=>⟨rfl,kk _ hgs F2 H2 _ (e1.trans e2) r2⟩⟩⟩
end
def aEZ(T:Addr→Prop)(i:Nat)(f:Str)(da:DE):DS:=fun E ρ=>da ρ fun y=>match ρ[i]? with|some (.ow (.obj C gs))=>T C∧gs.length<1000∧E.nx (ρ.set i (.ow (.obj C (abg f y gs))))|_=>False
theorem jN.put{K:PySem.W.Frag}{F:Hp}{f:Str}{v:V}{d:D}(r:Rep K F v d): ∀{fs:List (Str×V)} {gs:List (Str×D)},jN K F fs gs→jN K F (putF f v fs) (abg f d gs)
 |_,_, .nil=> .cons r .nil
 |_,_, .cons (f:=g) h q=>by
  unfold putF abg
  split
  ·exact .cons r q
  ·exact .cons h (jN.put r q)
end
end DL
end
section
namespace DL
open PySem L2
variable[bG]
def bM(N:List Str)(ds:List D):Rh:=ds.map Sl.sh++List.replicate (N.length - ds.length) Sl.no
theorem yQ{K:PySem.W.Frag}{F0 H0 F H:Hp}: ∀{vs:List V} {ds:List D} (n:Nat),aY K F vs ds→bB K F0 H0 F H (vs.map some++List.replicate n none) (ds.map Sl.sh++List.replicate n Sl.no) (ds.map (fun _=>[])++List.replicate n [])
 |_,_,0, .nil=> .nil
 |_,_,n+1, .nil=> .cons .no (yQ n .nil)
 |_,_,n, .cons h r=> .cons (.sh h) (yQ n r)
theorem rE(l:List D)(n:Nat):((l.map fun _=>([]:List Addr))++List.replicate n []).flatten=[]:=by
 induction l with
 |nil=>induction n with
  |zero=>rfl
  |succ n ih=>simpa [List.replicate_succ] using ih
 |cons x l ih=>simpa using ih
theorem bB.atz{K:PySem.W.Frag}{F0 H0:Hp}{F H H':Hp}: ∀{σ:L2.St} {ρ:Rh} {fps:List (List Addr)},bB K F0 H0 F H σ ρ fps→fps.flatten=[]→bB K F0 H0 F H' σ ρ fps
 |_,_,_, .nil,_=> .nil
 |_,_,_, .cons q r,hf=>by
  rw [List.flatten_cons] at hf
  obtain ⟨ha,hb⟩:=List.append_eq_nil_iff.mp hf
  refine .cons ?_ (r.atz hb)
  cases q with
  |no=>exact .no
  |sh r=>exact .sh r
  |bo r=>exact .bo r
  |bg r nn=>exact .bg r nn
  |ow o=>cases o<;>simp at ha
  |dk h r f=>simp at ha
  |nl h q z f=>simp at ha
  |gn h q=>exact .gn (h.hh (.refl F) (by rw [ha];simp)) q
section
variable{P:Program}{w:World}{K:PySem.W.Frag}{mg:Str→Option Value}{base:Heap}
theorem aAr{x qual:Str}{st:Stmt}{f:Addr}{fd:FuncData}{N ps:List Str}{k:Nat}{S:bK}{d:DS}(F:Fun K x qual st f fd)(Sc:FnScope N ps (defScope st))(hlen: ∀ds P,S ds P→ds.length=ps.length)
  (body: ∀(cdv:Value) (A:Around) (outer:List Env) (s:Shared) (H:Hp) (E:XK) (F0:Hp),Room k (A.deeper (PyProof.Rows.envOfC qual (defScope st) s.heap.objs.size f cdv))→LSs (cxOf CX0 P w K mg base N qual (defScope st) f cdv A outer s H E).nox F0 H (defBody st) d)
  (sem: ∀ds Q,S ds Q→d { nx:=fun _=>Q .non,rt:=Q } (bM N ds)):FnOk P w K mg base CX0 (k+1) f fd ps (bZ K S):=by
 refine F.ok Sc (fun vs H Q E ⟨F,ds,P,e,r,h,_⟩=>by rw [r.length];exact hlen _ _ h) fun cdv A outer s H vs Q E hr ⟨F0,ds,P,e,r,h,kk⟩=> ?_
 refine ⟨_,body cdv A outer s H E F0 hr,F0,bM N ds,(ds.map fun _=>([]:List Addr))++List.replicate (N.length - ds.length) [],{ nx:=fun _=>P .non,rt:=P },⟨.refl e.1, ?_, ?_,e.2⟩,sem ds P h,⟨?_, ?_, ?_, ?_, ?_, ?_⟩⟩
 ·unfold L2.start bM
  rw [r.length]
  exact yQ _ r
 ·exact ⟨by rw [rE];exact List.nodup_nil,fun a ha=>by rw [rE] at ha;cases ha⟩
 ·exact fun F' H' σ' ρ' fps' s R q=>kk _ q F' H' _ R.x .non
 ·exact fun F' H' σ' ρ' fps' s R q=>False.elim q
 ·exact fun F' H' σ' ρ' fps' s R q=>False.elim q
 ·exact fun F' H' v x s e' r' q=>kk _ q F' H' v e' r'
 ·exact fun F' H' v x fp s e' r' n1 n2 q=>False.elim q
 ·exact fun F' H' σ' ρ' fps' v t fp s R r n1 n2 q=>False.elim q
end
abbrev DIn:=Rh→List (Str×D)→(List (Str×D)→Prop)→Prop
def atA(K:PySem.W.Frag)(C x dx:Addr)(F0 H0:Hp)(d:DIn):TS:=fun D σ H=> ∃F ρ gs fs P,(Ext F0 H0 F H∧pK F0 H0)∧F x=none∧H0 x=none∧σ[0]? =some (some (.ref x))∧H x=some (.ins C dx fs)∧jN K F fs gs∧(∃fps,bB K F0 H0 F H σ (.no::ρ) fps∧fps.flatten=[])∧d (.no::ρ) gs P∧
 ∀gs',P gs'→ ∀F' H' fs',Ext F0 H0 F' H'→F' x=none→H' x=some (.ins C dx fs')→jN K F' fs' gs'→(∃fps,bB K F0 H0 F' H' σ (.no::ρ) fps∧fps.flatten=[])→D.nx σ H'
def fO(f:Str)(da:DE):DIn:=fun ρ gs P=>da ρ fun y=>gs.length<1000∧P (abg f y gs)
def iH(d u:DIn):DIn:=fun ρ gs P=>d ρ gs fun gs'=>u ρ gs' P
section
variable{X:Cx}{F0 H0:Hp}{C x dx:Addr}{e o:Expr}{pos pos':Pos}
abbrev LIn(X:Cx)(C x dx:Addr)(F0 H0:Hp)(st:Stmt)(d:DIn):Prop:=PS X st (atA X.K C x dx F0 H0 d)
abbrev ai7(X:Cx)(C x dx:Addr)(F0 H0:Hp)(st:List Stmt)(d:DIn):Prop:=PSs X st (atA X.K C x dx F0 H0 d)
theorem d7{f:Str}{da:DE}(ho:PE X o (tVar 0))(ha:LE X F0 H0 e da)(hc:Cls X.K C)(hn:NoAttr X.K C f)(hs:swapsWith e (some (.Attribute o f pos')) pos.line X.env=pure false:=by rfl):
  LIn X C x dx F0 H0 (.Assign [.Attribute o f pos'] e pos) (fO f da):=
 psW (ps_fld ho ha hs) fun D σ H ⟨F,ρ,gs,fs,P,⟨ex,tb⟩,nF,nH,h0,hx,rf,⟨fps,sl,hf⟩,q,kk⟩=>⟨F,_,fps,_,⟨ex,sl,⟨by rw [hf];exact List.nodup_nil,fun a ha=>by rw [hf] at ha;cases ha⟩,ex.adP tb⟩,q,fun y hy F1 H1 v e1 r1=>by
  have nF1:F1 x=none:=by rw [e1.o x (by rw [hx];simp)];exact nF
  have h1:=e1.h _ _ hx
  refine ⟨_,h0,x,C,dx,fs,rfl,h1,hc,hn,by rw [rf.length];exact hy.1, ?_⟩
  have e2:=ex.trans e1
  have ex':Ext F0 H0 F1 (upd H1 x (.ins C dx (putF f v fs))):=e2.aoQ nH nF1 h1
  refine kk _ hy.2 F1 _ _ ex' nF1 upd_same ((rf.mono e1.f).put r1) ⟨fps, ?_,hf⟩
  exact (sl.ext e1).atz hf⟩
theorem gK{st:Stmt}{rest:List Stmt}{d u:DIn}(h1:LIn X C x dx F0 H0 st d)(h2:ai7 X C x dx F0 H0 rest u):ai7 X C x dx F0 H0 (st::rest) (iH d u):=
 aiM (pss_cons h1 h2) fun D σ H ⟨F,ρ,gs,fs,P,ex,nF,nH,h0,hx,rf,sl,q,kk⟩=>⟨F,ρ,gs,fs,_,ex,nF,nH,h0,hx,rf,sl,q,fun gs' hg F' H' fs' ex' nF' hx' rf' sl'=>⟨F',ρ,gs',fs',P,⟨ex',ex.2⟩,nF',nH,h0,hx',rf',sl',hg,kk⟩⟩
theorem qT{st:Stmt}{d:DIn}(h1:LIn X C x dx F0 H0 st d):ai7 X C x dx F0 H0 [st] d:=pss_one h1
end
section
variable{P:Program}{w:World}{K:PySem.W.Frag}{mg:Str→Option Value}{base:Heap}
theorem apc{y qual:Str}{st:Stmt}{f C:Addr}{fd:FuncData}{N ps:List Str}{k:Nat}{S:d9}{d:DIn}(F:Fun K y qual st f fd)(Sc:FnScope N ps (defScope st))(hlen: ∀ds P,S ds P→ds.length+1=ps.length)
  (body: ∀(cdv:Value) (A:Around) (outer:List Env) (s:Shared) (H:Hp) (E:XK) (F0 H0:Hp) (x dx:Addr),Room k (A.deeper (PyProof.Rows.envOfC qual (defScope st) s.heap.objs.size f cdv))→ai7 (cxOf CX0 P w K mg base N qual (defScope st) f cdv A outer s H E).nox C x dx F0 H0 (defBody st) d)
  (sem: ∀ds Q,S ds Q→d (.no::(ds.map Sl.sh++List.replicate (N.length - (ds.length+1)) Sl.no)) [] Q):FnOk P w K mg base CX0 (k+1) f fd ps (j5 K C S):=by
 refine F.ok Sc (fun vs H Q E ⟨F,H1,x,dx,vs',ds,P,e,_,_,_,_,_,r,h,_⟩=>by rw [e,List.length_cons,r.length];exact hlen _ _ h) fun cdv A outer s H vs Q E hr ⟨F0,H1,x,dx,vs',ds,P,e,eH,nx,ndx,ne,⟨sm,tb⟩,r,h,kk⟩=> ?_
 subst e
 have nF0:=sm.free nx
 have w0:Same F0 H:=fun b u hb=>by
  rw [eH,upd_ne (ne_of_none hb nF0),upd_ne (ne_of_none hb (sm.free ndx))];exact sm _ _ hb
 have w1:Same H1 H:=fun b u hb=>by
  rw [eH,upd_ne (ne_of_none hb nx),upd_ne (ne_of_none hb ndx)];exact hb
 refine ⟨_,body cdv A outer s H E F0 H1 x dx hr,F0,_,[],[],P,⟨.of (.refl _) w1 w0 (fun _ _=>rfl) (fun s=>by rw [eH];exact (s.upd (by intro _ z;cases z)).upd (by intro _ z;cases z)),tb⟩,nF0,nx, ?_,by rw [eH];exact upd_same, .nil,⟨[]::((ds.map fun _=>[])++List.replicate (N.length - (ds.length+1)) []), ?_, ?_⟩,sem ds P h,fun gs hg F' H' fs ex nF hx rf sl=> ?_⟩
 ·rfl
 ·unfold L2.start
  rw [List.length_cons,r.length]
  exact .cons .no (yQ _ r)
 ·rw [List.flatten_cons,List.nil_append];exact rE ds _
 ·exact kk gs hg (upd F' x (.ins C dx fs)) H' (ex.ahB nx nF hx) (.obj upd_same (rf.mono (aN nF)))
end
end DL
end
section
namespace DL
open PySem L2
variable[bG]
section
variable{X:Cx}{F0 H0:Hp}{e a b c tg o:Expr}{es:List Expr}{pos p apos:Pos}{x m:Str}
section
variable{da db:DE}
theorem bQ(ha:LB X F0 H0 a da)(hb:LB X F0 H0 b db):LE X F0 H0 (.BinOp a .Add b pos) (dOp fH da db):=Cz aoV ahE ha hb
theorem xK(ha:LB X F0 H0 a da)(hb:LB X F0 H0 b db):LE X F0 H0 (.BinOp a .Sub b pos) (dOp Mh da db):=Cz aoW op_sub ha hb
theorem Zz(ha:LB X F0 H0 a da)(hb:LB X F0 H0 b db):LE X F0 H0 (.BinOp a .Mult b pos) (dOp abl da db):=Cz aoX op_mul ha hb
theorem gW(ha:LB X F0 H0 a da)(hb:LB X F0 H0 b db):LE X F0 H0 (.BinOp a .Mod b pos) (dOp mX da db):=Cz aoY op_mod ha hb
theorem pC(ha:LB X F0 H0 a da)(hb:LB X F0 H0 b db):LE X F0 H0 (.BinOp a .FloorDiv b pos) (dOp sO da db):=Cz aiN op_fdiv ha hb
theorem avJ(ha:LB X F0 H0 a da)(hb:LB X F0 H0 b db):LE X F0 H0 (.BinOp a .Pow b pos) (dOp aiO da db):=Cz aoZ op_pow ha hb
structure CN(X:Cx)(op:CmpOp)(d:DR2):Prop where
 ex: ∃r,j8 X.K r d∧OpR X (compareOp op) r
theorem lD(hu:X.A.units+64<cLine):CN X .Eq dEq:=⟨_,avr,aiS hu⟩
theorem Qz(hu:X.A.units+64<cLine):CN X .NotEq dNe:=⟨_,avs,aiT hu⟩
theorem ai8:CN X .Lt dLt:=⟨_,Zv,op_lt⟩
theorem aAs:CN X .LtE dLe:=⟨_,Zv,op_le⟩
theorem V6:CN X .Gt dGt:=⟨_,Zv,op_gt⟩
theorem aDU:CN X .GtE dGe:=⟨_,Zv,op_ge⟩
theorem aAt:CN X .Is (Hr false):=⟨_,ao0,op_isN⟩
theorem afq:CN X .IsNot (Hr true):=⟨_,aiU,op_notN⟩
theorem sW{op:CmpOp}{d:DR2}(h:CN X op d)(ha:LB X F0 H0 a da)(hb:LB X F0 H0 b db)(hm:behindInMarks op b=false:=by first|exact nomark _|rfl):LE X F0 H0 (.Compare a [op] [b] pos) (dOp d da db):=by
 obtain ⟨r,h1,h2⟩:=h
 exact avq h1 h2 ha hb hm
theorem cG{op:CmpOp}{d:DR2}(h:CN X op d)(ha:LB X F0 H0 a da)(hb:LB X F0 H0 b db)(hm:behindInMarks op b=false:=by first|exact nomark _|rfl):LT X F0 H0 (.Compare a [op] [b] pos) (cW (dOp d da db)):=by
 obtain ⟨r,h1,h2⟩:=h
 exact avu h1 h2 ha hb hm
end
mutual
def m_:D→Bool
 | .non=>true
 | .int _=>true
 | .str _=>true
 |_=>false
end
theorem QC{K:PySem.W.Frag}{F:Hp}{v:V}{d:D}(r:Rep K F v d)(h:m_ d=true):flatV v=true:=by
 cases r<;>first|rfl|simp [m_] at h
theorem ai9{K:PySem.W.Frag}{F G:Hp}{v w:V}{x y:D}(r:Rep K F v x)(q:Rep K G w y)(h:m_ x=true)(g:m_ y=true):eqV v w=eqD x y:=by
 cases r<;>first|(simp [m_] at h;done)|skip
 all_goals (cases q<;>first|(simp [m_] at g;done)|skip)
 all_goals first|(simp [eqV,eqD];done)|skip
 ·rename_i i j
  by_cases e:i=j<;>simp [eqV,eqD,e]
 ·rename_i i _ _ j _ _
  by_cases e:i=j
  ·subst e;simp [eqV,eqD]
  ·have:aZ i≠aZ j:=fun z=>e (uE z)
   simp [eqV,eqD,e,this]
theorem QD{K:PySem.W.Frag}{F G:Hp}{v:V}{x:D}(q:Rep K G v x)(g:m_ x=true): ∀{vs:List V} {xs:List D},aY K F vs xs→xs.all m_=true→inV v vs=xs.any (fun y=>eqD y x)∧vs.all flatV=true
 |_,_, .nil,_=>by simp [inV]
 |_,_, .cons h r,f=>by
  simp only [List.all_cons,Bool.and_eq_true] at f
  obtain ⟨h1,h2⟩:=QD q g r f.2
  unfold inV at h1 ⊢
  rw [List.any_cons,List.any_cons,h1,ai9 h q f.1 g,List.all_cons,h2,QC h f.1]
  simp
def dIn(neg:Bool):DR2
 | .str [c], .str z,P=>P (.bl (if neg then !decide (c∈z) else decide (c∈z)))
 |x, .lst xs,P=>(m_ x=true∧xs.all m_=true)∧P (.bl (if neg then !xs.any (fun y=>eqD y x) else xs.any (fun y=>eqD y x)))
 |x, .tup xs,P=>(m_ x=true∧xs.all m_=true)∧P (.bl (if neg then !xs.any (fun y=>eqD y x) else xs.any (fun y=>eqD y x)))
 |_,_,_=>False
abbrev aDV(neg:Bool):R2:=fun x y H Q=> ∃(c:Nat) (z:Str),x= .str ⟨#[c]⟩∧y= .str z∧Q (.bl (if neg then !decide (c∈z.cps.toList) else decide (c∈z.cps.toList))) H
abbrev avK(K:PySem.W.Frag)(neg:Bool):R2:=fun x y H Q=>aDV neg x y H Q∨rIn K neg x y H Q
theorem Yl{K:PySem.W.Frag}{F H:Hp}{v:V}{x:D}(b:jR K F H v x)(h:m_ x=true):Rep K F v x:=by
 rcases b with b|⟨fp,b,nt⟩
 ·exact b
 ·cases b<;>simp [m_] at h
theorem ai_{K:PySem.W.Frag}{neg:Bool}:j8 K (avK K neg) (dIn neg):=by
 intro F H v w x y P Q e bx byy d k
 unfold dIn at d
 split at d
 ·rename_i c z
  obtain ⟨rfl,h1,h2⟩:=bx.str
  obtain ⟨rfl,h3,h4⟩:=byy.str
  exact .inl ⟨c,_,rfl,rfl,k _ d F H _ (.refl e) (.bl _)⟩
 ·rename_i xs _
  obtain ⟨p,vs,rfl,s,r,z⟩:=byy.lst e
  have rx:=Yl bx d.1.1
  obtain ⟨h1,h2⟩:=QD rx d.1.1 r d.1.2
  refine .inr ⟨p,vs,rfl, .inl s,QC rx d.1.1,h2, ?_⟩
  rw [h1]
  exact k _ d.2 F H _ (.refl e) (.bl _)
 ·rename_i xs _
  obtain ⟨p,vs,rfl,s,r,z⟩:=byy.tup e
  have rx:=Yl bx d.1.1
  obtain ⟨h1,h2⟩:=QD rx d.1.1 r d.1.2
  refine .inr ⟨p,vs,rfl, .inr s,QC rx d.1.1,h2, ?_⟩
  rw [h1]
  exact k _ d.2 F H _ (.refl e) (.bl _)
 ·exact d.elim
theorem aAu:CN X .In (dIn false):=⟨_,ai_,OpR.or op_in_sign op_in_seq⟩
theorem afr:CN X .NotIn (dIn true):=⟨_,ai_,OpR.or op_notIn_sign op_notIn_seq⟩
def aAv(K:PySem.W.Frag)(r:List V→Hp→VK→Prop)(d:List D→(D→Prop)→Prop):Prop:= ∀(F H:Hp) vs xs (P:D→Prop) (Q:VK),Same F H→sJ K F H vs xs→d xs P→(∀z,P z→ ∀F' H' u,Ext F H F' H'→Rep K F' u z→Q u H')→r vs H Q
def bR(d:List D→(D→Prop)→Prop)(da:DA):DE:=fun ρ P=>da ρ fun xs=>d xs P
theorem aja{r:List V→Hp→VK→Prop}{d:List D→(D→Prop)→Prop}{da:DA}(hr:aAv X.K r d): ∀σ H Q,low X.K F0 H0 (bR d da) σ H Q→tCB r (aty X.K F0 H0 da) σ H Q:=fun σ H Q ⟨F,ρ,fps,P,E,q,k⟩=>
 ⟨F,ρ,fps,_,E,q,fun xs hx F1 H1 vs e1 r1=>hr F1 H1 vs xs P Q e1.w r1 hx fun z pz F2 H2 u e2 r2=>k z pz F2 H2 u (e1.trans e2) r2⟩
structure Mj(X:Cx)(f:Value)(d:List D→(D→Prop)→Prop):Prop where
 ex: ∃r,aAv X.K r d∧CallR X f r
theorem cP{id:String}{d:List D→(D→Prop)→Prop}{da:DA}(h:Mj X (.builtin id) d)(hg:Gl X x)(hm:X.mg x=none)(hv:bootBuiltins x=some (.builtin id))(ha:LAB X F0 H0 (e::es) da)(hn:x≠"__name__":=by decide)(hdb:(x==("__debug__":Str))=false:=by decide)
  (he:starEach (e::es) X.env=(false,eval e X.env)::starEach es X.env:=by rfl) (hpl:(backTo pos (starEach es X.env)).any (·.1)=false:=by rfl):LE X F0 H0 (.Call (.Name x p) (e::es) [] pos) (bR d da):=by
 obtain ⟨r,h1,h2⟩:=h
 exact peW (pe_callB h2 hg hm hv ha hn hdb he hpl) (aja h1)
theorem lE{T:String}{d:List D→(D→Prop)→Prop}{da:DA}(h:Mj X (.type T) d)(hg:Gl X x)(hm:X.mg x=none)(hv:bootBuiltins x=some (.type T))(ha:LAB X F0 H0 (e::es) da)(hn:x≠"__name__":=by decide)(hdb:(x==("__debug__":Str))=false:=by decide)
  (he:starEach (e::es) X.env=(false,eval e X.env)::starEach es X.env:=by rfl) (hpl:(backTo pos (starEach es X.env)).any (·.1)=false:=by rfl):LE X F0 H0 (.Call (.Name x p) (e::es) [] pos) (bR d da):=by
 obtain ⟨r,h1,h2⟩:=h
 exact peW (pe_callTy h2 hg hm hv ha hn hdb he hpl) (aja h1)
theorem sJ.one{K:PySem.W.Frag}{F H:Hp}{vs:List V}{x:D}(r:sJ K F H vs [x]): ∃v,vs=[v]∧jR K F H v x:=by
 cases r with
 |cons r rr=>cases rr;exact ⟨_,rfl,r⟩
theorem sJ.two{K:PySem.W.Frag}{F H:Hp}{vs:List V}{x y:D}(r:sJ K F H vs [x,y]): ∃v w,vs=[v,w]∧jR K F H v x∧jR K F H w y:=by
 cases r with
 |cons r rr=>
  obtain ⟨w,rfl,r2⟩:=rr.one
  exact ⟨_,w,rfl,r,r2⟩
def aAw:D→Option Nat
 | .str z=>some z.length
 | .lst z=>some z.length
 | .tup z=>some z.length
 |_=>none
def jw:List D→(D→Prop)→Prop
 |[x],P=>(match aAw x with|some n=>P (.int n)|none=>False)
 |_,_=>False
theorem gM:Mj X (.builtin "len") jw:=⟨_,fun F H vs xs P Q e r d k=>by
 unfold jw at d
 split at d
 ·obtain ⟨v,rfl,r1⟩:=r.one
  split at d
  ·rename_i x _ n hn
   refine ⟨v,n,rfl, ?_,k _ d F H _ (.refl e) (.int _)⟩
   cases x<;>simp only [aAw,Option.some.injEq,reduceCtorEq] at hn
   ·obtain ⟨rfl,h1,h2⟩:=r1.str
    exact ⟨by rw [ju];exact h1,by rw [ju];exact hn.symm⟩
   ·obtain ⟨p,vs,rfl,s,r,z⟩:=r1.lst e
    exact .inl ⟨vs,s,by rw [r.length];exact hn.symm⟩
   ·obtain ⟨p,vs,rfl,s,r,z⟩:=r1.tup e
    exact .inr ⟨vs,s,by rw [r.length];exact hn.symm⟩
  ·exact d.elim
 ·exact d.elim,call_len⟩
def j6:List D→Option (List Int)
 |[]=>some []
 | .int i::r=>(j6 r).map (i:: ·)
 |_=>none
theorem uG(ns:List Int):j6 (ns.map D.int)=some ns:=by
 induction ns with
 |nil=>rfl
 |cons n ns ih=>simp [j6,ih]
theorem QF: ∀{xs:List D} {ns:List Int},j6 xs=some ns→xs=ns.map D.int
 |[],_,h=>by simp [j6] at h;subst h;rfl
 | .int i::r,ns,h=>by
  simp only [j6] at h
  cases q:j6 r with
  |none=>rw [q] at h;cases h
  |some ms=>rw [q] at h;simp at h;subst h;rw [QF q];rfl
 | .non::_,_,h=>by simp [j6] at h
 | .bl _::_,_,h=>by simp [j6] at h
 | .str _::_,_,h=>by simp [j6] at h
 | .ty _::_,_,h=>by simp [j6] at h
 | .fn _::_,_,h=>by simp [j6] at h
 | .lst _::_,_,h=>by simp [j6] at h
 | .tup _::_,_,h=>by simp [j6] at h
 | .obj _ _::_,_,h=>by simp [j6] at h
def mH:List D→Option (List Tx)
 |[]=>some []
 | .str i::r=>(mH r).map (i:: ·)
 |_=>none
theorem yR(ns:List Tx):mH (ns.map D.str)=some ns:=by
 induction ns with
 |nil=>rfl
 |cons n ns ih=>simp [mH,ih]
theorem QG: ∀{xs:List D} {ns:List Tx},mH xs=some ns→xs=ns.map D.str
 |[],_,h=>by simp [mH] at h;subst h;rfl
 | .str i::r,ns,h=>by
  simp only [mH] at h
  cases q:mH r with
  |none=>rw [q] at h;cases h
  |some ms=>rw [q] at h;simp at h;subst h;rw [QG q];rfl
 | .non::_,_,h=>by simp [mH] at h
 | .bl _::_,_,h=>by simp [mH] at h
 | .int _::_,_,h=>by simp [mH] at h
 | .ty _::_,_,h=>by simp [mH] at h
 | .fn _::_,_,h=>by simp [mH] at h
 | .lst _::_,_,h=>by simp [mH] at h
 | .tup _::_,_,h=>by simp [mH] at h
 | .obj _ _::_,_,h=>by simp [mH] at h
def ue:List D→Option (List Bool)
 |[]=>some []
 | .bl i::r=>(ue r).map (i:: ·)
 |_=>none
theorem abr(ns:List Bool):ue (ns.map D.bl)=some ns:=by
 induction ns with
 |nil=>rfl
 |cons n ns ih=>simp [ue,ih]
theorem afs: ∀{xs:List D} {ns:List Bool},ue xs=some ns→xs=ns.map D.bl
 |[],_,h=>by simp [ue] at h;subst h;rfl
 | .bl i::r,ns,h=>by
  simp only [ue] at h
  cases q:ue r with
  |none=>rw [q] at h;cases h
  |some ms=>rw [q] at h;simp at h;subst h;rw [afs q];rfl
 | .non::_,_,h=>by simp [ue] at h
 | .str _::_,_,h=>by simp [ue] at h
 | .int _::_,_,h=>by simp [ue] at h
 | .ty _::_,_,h=>by simp [ue] at h
 | .fn _::_,_,h=>by simp [ue] at h
 | .lst _::_,_,h=>by simp [ue] at h
 | .tup _::_,_,h=>by simp [ue] at h
 | .obj _ _::_,_,h=>by simp [ue] at h
def aAx:List D→(D→Prop)→Prop
 |[.lst xs],P=>(match j6 xs with|some ns=>P (.int ns.sum)|none=>False)
 |_,_=>False
def ajb:List D→(D→Prop)→Prop
 |[.lst xs],P=>(match ue xs with|some ns=>P (.bl (ns.all id))|none=>False)
 |_,_=>False
theorem aAy(hc:X.calm=true):Mj X (.builtin "all") ajb:=⟨_,fun F H vs xs P Q e r d k=>by
 unfold ajb at d
 split at d
 ·obtain ⟨v,rfl,r1⟩:=r.one
  split at d
  ·rename_i xs ns hn
   obtain ⟨p,vs,rfl,s,r,z⟩:=r1.lst e
   rw [afs hn] at r
   rw [r.bls] at s
   exact ⟨p,ns,rfl,s,k _ d F H _ (.refl e) (.bl _)⟩
  ·exact d.elim
 ·exact d.elim,cr_all hc⟩
def aAz:List D→(D→Prop)→Prop
 |[.lst xs],P=>(match ue xs with|some ns=>P (.bl (ns.any id))|none=>False)
 |_,_=>False
def Ym:List D→(D→Prop)→Prop
 |[.int i, .int j],P=>P (.int (if j>i then j else i))
 |_,_=>False
theorem adU(hc:X.calm=true):Mj X (.builtin "max") Ym:=⟨_,fun F H vs xs P Q e r d k=>by
 unfold Ym at d
 split at d
 ·obtain ⟨v,w,rfl,r1,r2⟩:=r.two
  exact ⟨_,_,by rw [r1.int,r2.int],k _ d F H _ (.refl e) (.int _)⟩
 ·exact d.elim,call_max2 hc⟩
def aft:List D→(D→Prop)→Prop
 |[.int i, .int j],P=>P (.int (if j<i then j else i))
 |_,_=>False
theorem avL(hc:X.calm=true):Mj X (.builtin "min") aft:=⟨_,fun F H vs xs P Q e r d k=>by
 unfold aft at d
 split at d
 ·obtain ⟨v,w,rfl,r1,r2⟩:=r.two
  exact ⟨_,_,by rw [r1.int,r2.int],k _ d F H _ (.refl e) (.int _)⟩
 ·exact d.elim,call_min2 hc⟩
def aDW:List D→(D→Prop)→Prop
 |[.int i],P=>P (.int (if i<0 then -i else i))
 |_,_=>False
def k_:List D→(D→Prop)→Prop
 |[.lst xs],P=>P (.lst xs)
 |[.tup xs],P=>P (.lst xs)
 |_,_=>False
theorem vN:Mj X (.type "list") k_:=⟨_,fun F H vs xs P Q e r d k=>by
 unfold k_ at d
 split at d
 ·obtain ⟨v,rfl,r1⟩:=r.one
  obtain ⟨p,vs,rfl,s,r,z⟩:=r1.lst e
  exact ⟨p,vs,rfl, .inl s,fun l hl=>k _ d _ _ _ (.new e hl) (rA e hl r z)⟩
 ·obtain ⟨v,rfl,r1⟩:=r.one
  obtain ⟨p,vs,rfl,s,r,z⟩:=r1.tup e
  exact ⟨p,vs,rfl, .inr s,fun l hl=>k _ d _ _ _ (.new e hl) (rA e hl r z)⟩
 ·exact d.elim,call_list_of⟩
def tyD:D→Option String
 | .non=>some "NoneType"
 | .bl _=>some "bool"
 | .int _=>some "int"
 | .str _=>some "str"
 | .lst _=>some "list"
 | .tup _=>some "tuple"
 |_=>none
def aAA:List D→(D→Prop)→Prop
 |[x, .ty n],P=>(match tyD x with|some t=>(match kitB t n with|some b=>P (.bl b)|none=>False)|none=>False)
 |_,_=>False
theorem kb1:kitB "bool" "bool"=some true:=by decide+kernel
theorem kb2:kitB "bool" "int"=some true:=by decide+kernel
theorem kb3:kitB "int" "bool"=some false:=by decide+kernel
theorem kb4:kitB "int" "int"=some true:=by decide+kernel
theorem kb5:kitB "str" "str"=some true:=by decide+kernel
theorem kb6:kitB "list" "list"=some true:=by decide+kernel
theorem kb7:kitB "tuple" "tuple"=some true:=by decide+kernel
theorem kb8:kitB "str" "int"=some false:=by decide+kernel
theorem kb9:kitB "str" "bool"=some false:=by decide+kernel
theorem aAB:kitB "NoneType" "str"=some false:=by decide+kernel
theorem aAC:kitB "NoneType" "int"=some false:=by decide+kernel
theorem aAD:kitB "NoneType" "bool"=some false:=by decide+kernel
def xM(sep:Tx)(xs:List Tx):Tx:=TL.joinL sep xs
def Hu(sep:Tx)(x:D)(P:D→Prop):Prop:=match x with
 | .lst xs=>(match mH xs with|some ts=>(ts.map (·.length)).sum+ts.length*sep.length≤16777216∧P (.str (xM sep ts))|none=>False)
 |_=>False
def ajc(do_ da:DE):DE:=fun ρ P=>do_ ρ fun s=>match s with
 | .str sep=>da ρ fun x=>Hu sep x P
 |_=>False
theorem Yn{sep:Tx}(hs:oF sep=true): ∀{ts:List Tx},(∀t∈ts,oF t=true)→oF (xM sep ts)=true
 |[],_=>rfl
 |[p],h=>h p (by simp)
 |p::q::r,h=>by
  show oF (p++(sep++TL.joinL sep (q::r)))=true
  rw [Qp,Qp,h p (by simp),hs,show oF (TL.joinL sep (q::r))=true from Yn hs fun t ht=>h t (by simp [ht])]
  rfl
theorem abt{sep:Tx}: ∀{ts:List Tx},(xM sep ts).length≤(ts.map (·.length)).sum+ts.length*sep.length
 |[]=>by simp [xM,TL.joinL]
 |[p]=>by simp [xM,TL.joinL]
 |p::q::r=>by
  have:=abt (sep:=sep) (ts:=q::r)
  show (p++(sep++TL.joinL sep (q::r))).length≤_
  rw [List.length_append,List.length_append]
  unfold xM at this
  simp only [List.map_cons,List.sum_cons,List.length_cons] at this ⊢
  have e:(r.length+1+1)*sep.length=(r.length+1)*sep.length+sep.length:=by rw [Nat.succ_mul]
  omega
theorem aY.afu{K:PySem.W.Frag}{F:Hp}: ∀{ts:List Tx} {vs:List V},aY K F vs (ts.map D.str)→ ∀t∈ts,oF t=true
 |[],_,_,_,h=>by cases h
 |t::ts,_,r,u,h=>by
  cases r with
  |cons r rr=>
   rcases List.mem_cons.mp h with q|q
   ·subst q;cases r with|str _ _ g=>exact g
   ·exact aY.afu rr u q
theorem apd{do_ da:DE}(ho:LE X F0 H0 o do_)(ha:LB X F0 H0 e da)(hs:starEach [e] X.env=[(false,eval e X.env)]:=by rfl)(hbase:attributeBase o "join" X.env (eval o X.env)=eval o X.env:=by rfl)(hline:(apos.endLine==pos.line)=true:=by rfl):
  LE X F0 H0 (.Call (.Attribute o "join" apos) [e] [] pos) (ajc do_ da):=
 peW (pe_join ho ha hs hbase hline) fun σ H Q ⟨F,ρ,fps,P,E,q,k⟩=>⟨F,ρ,fps,_,E,q,fun s hs F1 H1 v e1 r1=>by
  cases s<;>first|exact False.elim hs|skip
  rename_i sep
  cases r1 with
  |str _ z1 g1=>
  refine ⟨⟨_,rfl⟩,F1,ρ,fps,_,E.ext e1,hs,fun x hx F2 H2 u e2 r2=> ?_⟩
  unfold Hu at hx
  split at hx
  ·split at hx
   ·rename_i xs ts ht
    obtain ⟨p,vs,rfl,s,r,z⟩:=r2.lst e2.w
    rw [QG ht] at r
    have hok:=r.afu
    rw [r.strs] at s
    refine ⟨_,p,ts.map aZ,rfl,rfl, .inl s, ?_, ?_⟩
    ·rw [List.map_map,List.length_map,ju]
     have:(ts.map ((fun x=>x.length)∘aZ))=ts.map (·.length):=List.map_congr_left fun t _=>ju t
     rw [this];exact hx.1
    ·have:Txt.join (aZ sep) (ts.map aZ)=aZ (xM sep ts):=by
      refine TL.ext_tl ?_
      rw [TL.join_eq,TL.tl_join,List.map_map]
      have:ts.map (TL.tl∘aZ)=ts:=by simp [Function.comp_def,aZ]
      rw [this];rfl
     rw [this]
     exact k _ hx.2 F2 H2 _ (e1.trans e2) (.str _ (Nat.le_trans abt (by rw [sizeLine_eq];exact hx.1)) (Yn g1 hok))
   ·exact False.elim hx
  ·exact False.elim hx⟩
structure FnG(P:Program)(w:World)(K:PySem.W.Frag)(mg:Str→Option Value)(base:Heap)(x:Str)(k:Nat)(S:bK):Prop where
 ex: ∃f fd ps,FnOk P w K mg base CX0 k f fd ps (bZ K S)∧mg x=some (.ref f)∧PySem.W.keepIn K (.ref f)=true∧Binds K fd ps []
structure MkG(P:Program)(w:World)(K:PySem.W.Frag)(mg:Str→Option Value)(base:Heap)(x:Str)(C:Addr)(k:Nat)(S:d9):Prop where
 ex: ∃f fd ps,Mk K C f∧FnOk P w K mg base CX0 k f fd ps (j5 K C S)∧mg x=some (.ref C)∧Binds K fd ps []
theorem a_{k:Nat}{S:bK}{E:XK}{da:DA}(h:FnG X.prog X.w X.K X.mg X.base x k S)(hr:Room k X.A)(hg:Gl X x)(hx:Passes CX0 X E)
  (ha:LA X F0 H0 (e::es) da) (hdb:(x==("__debug__":Str))=false:=by decide) (he:starEach (e::es) X.env=(false,eval e X.env)::starEach es X.env:=by rfl) (hpl:(backTo pos (starEach es X.env)).any (·.1)=false:=by rfl):
  LE X F0 H0 (.Call (.Name x p) (e::es) [] pos) (cJ S da):=by
 obtain ⟨f,fd,ps,F,hm,hk,hb⟩:=h
 exact apa F hr hg hm hk hb hx ha hdb he hpl
theorem jx{k:Nat}{C:Addr}{S:d9}{E:XK}{da:DA}(h:MkG X.prog X.w X.K X.mg X.base x C k S)(hr:Room (k+1) X.A)(hg:Gl X x)(hx:Passes CX0 X E)
  (ha:LA X F0 H0 (e::es) da) (hdb:(x==("__debug__":Str))=false:=by decide) (he:starEach (e::es) X.env=(false,eval e X.env)::starEach es X.env:=by rfl) (hpl:(backTo pos (starEach es X.env)).any (·.1)=false:=by rfl):
  LE X F0 H0 (.Call (.Name x p) (e::es) [] pos) (qH C S da):=by
 obtain ⟨f,fd,ps,M,F,hm,hb⟩:=h
 exact apb M F hr hg hm hb hx ha hdb he hpl
theorem ZC{C:Addr}(hm:X.mg x=some (.ref C))(hg:Gl X x)(hd:(x==("__debug__":Str))=false:=by decide):LE X F0 H0 (.Name x pos) (dC (.fn C)):=
 ahC (pe_glob hg hm (v:= .ref C) rfl hd) fun _=> .fn C
theorem afv{i:Int}(hg:Gl X x)(hm: ∃t,X.mg x=some (.int i t))(hd:(x==("__debug__":Str))=false:=by decide):LE X F0 H0 (.Name x pos) (dC (.int i)):=by
 obtain ⟨t,hm⟩:=hm
 exact ahC (pe_glob hg hm (v:= .int i) ⟨t,rfl⟩ hd) fun _=> .int i
end
def aAE(K:PySem.W.Frag):Sp:=fun vs H Q _=> ∃(a:Addr) (ns:List Int),vs=[.ref a]∧SqL K H a (ns.map V.int)∧ns.length≤63∧ ∀H',Q (.bl true) H'
def pN:bK:=fun ds P=>match ds with|[.lst xs]=>(match j6 xs with|some ns=>ns.length≤63∧P (.bl true)|none=>False)|_=>False
theorem ajd{K:PySem.W.Frag}: ∀vs H Q E,LamX.Tabs bG.T H→aAE K vs H Q E→ ∀F,(∀p∈bG.T,F p.1=none)→Same F H→(∀a xs,SqL K H a xs→SqL K F a xs)→ScF F H→bZ K pN vs H Q E:=fun vs H Q E tb0 ⟨a,ns,e,s,hl,k⟩ F nF w sF sc=>by
 have tb:pK F H:=⟨tb0,nF,sc⟩
 subst e
 have hz:ns.length≤sizeLine:=Nat.le_trans hl (by decide)
 refine ⟨F,[.lst (ns.map D.int)],fun d=>d= .bl true,⟨w,tb⟩, .cons (.lst (sF _ _ s) (by simpa using hz) (aY.of_ints ns)) .nil, ?_,fun x hx F' H' v _ r=> ?_⟩
 ·show (match j6 (ns.map D.int) with|some ns=>ns.length≤63∧(D.bl true:D)= .bl true|none=>False)
  rw [uG]
  exact ⟨hl,rfl⟩
 ·subst hx
  cases r
  exact k H'
end DL
end
section
namespace DL
open PySem L2
variable[bG]
section
variable{X:Cx}{F0 H0:Hp}{e a b c tg o:Expr}{es:List Expr}{pos p apos:Pos}{x m:Str}
theorem aY.setAt{K:PySem.W.Frag}{F:Hp}{v:V}{d:D}(r:Rep K F v d): ∀{vs:List V} {ds:List D},aY K F vs ds→ ∀j,aY K F (vs.set j v) (ds.set j d)
 |_,_, .nil,_=> .nil
 |_,_, .cons h q,0=> .cons r q
 |_,_, .cons h q,j+1=> .cons h (aY.setAt r q j)
def aDX(i:Nat)(di de:DE):DS:=fun E ρ=>de ρ fun y=>match ρ[i]? with|some (.ow (.lst xs))=>di ρ fun k=>(match k with| .int k=>(0≤k∧k<xs.length)∧E.nx (ρ.set i (.ow (.lst (xs.set k.toNat y))))|_=>False)|_=>False
theorem ape{vs is:List Nat}{wi:TI}{g:TG}{tt:TT}{te:TE}{di:DI}{dg:DG}{dt:DT}{de:DE}(hi: ∀σ H R,ao4 X.K F0 H0 di σ H R→wi σ H R)(hg:CK X.K g dg is)(his: ∀i∈is,i∈vs)
  (ht: ∀σ H Q,Qo X.K F0 H0 dt σ H Q→tt σ H Q) (he: ∀σ H Q,low X.K F0 H0 de σ H Q→te σ H Q): ∀σ H Q,aAq X.K F0 H0 (dLc vs di dg dt de) σ H Q→tLc wi g tt te vs σ H Q:=fun σ H Q ⟨F,ρ,fps,P,R,q,k⟩=>
 hi _ _ _ ⟨F,ρ,fps,_,R,q,fun xs ⟨hz,hx⟩ F1 H1 J e1 it A nA=>by
  have nF1:F1 A=none:=e1.w.free nA
  refine ⟨fun i m H2=>m=xs.length - i∧i≤xs.length∧ ∃F2 acc done,Ext F1 H1 F2 H2∧F2 A=none∧H2 A=some (.lst acc)∧aY X.K F2 acc done∧done.length≤i∧
   lcD vs dg dt de ρ (xs.drop i) fun ys=>P (.lst (done++ys)),⟨_,rfl,Nat.zero_le _,F1,[],[],(.adQ e1.w nA),nF1,upd_same, .nil,Nat.le_refl _,hx⟩, ?_⟩
  rintro i m H2 ⟨rfl,hi,F2,acc,done,e2,nF2,hA,ra,hl,q2⟩
  by_cases hlt:i<xs.length
  ·refine .inr ⟨it.go H2 i (e2.f.trans e2.w) (((R.ext e1).ext e2).x.n) hlt,fun H'=> ∃F2 acc done,Ext F1 H1 F2 H'∧F2 A=none∧H' A=some (.lst acc)∧aY X.K F2 acc done∧done.length≤i+1∧
    lcD vs dg dt de ρ (xs.drop (i+1)) fun ys=>P (.lst (done++ys)),fun H' n=>⟨_,by omega,rfl,hlt,n⟩,fun v H3 y=> ?_⟩
   have hx:xs[i]? =some xs[i]:=by simp [hlt]
   obtain ⟨F3,e3,r3⟩:=it.yld F2 H2 i v H3 _ e2.f e2.w (((R.ext e1).ext e2).x.n) y hx
   have ed:xs.drop i=xs[i]::xs.drop (i+1):=by simp
   rw [ed] at q2
   unfold lcD at q2
   have up: ∀{F4 H4:Hp},Ext F2 H2 F4 H4→F4 A=none∧H4 A=some (.lst acc):=fun e=>⟨by rw [e.o A (by rw [hA];simp)];exact nF2,e.h _ _ hA⟩
   obtain ⟨fpw,Rw⟩:=(((R.ext e1).ext e2).ext e3).wipe vs
   refine hg F0 H0 F3 H3 _ _ fpw v _ _ _ Rw r3 q2 fun ρ4 p4 σ4 fps4 ag R4=>⟨?_, ?_⟩
   ·have:=ag.wipe his
    rw [this]
    exact KY σ vs
   ·refine ht _ _ _ ⟨F3,ρ4,fps4,_,R4,p4,fun b hb F4 H4 e4=> ?_⟩
    cases b with
    |true=>
     rw [if_pos rfl] at hb ⊢
     refine he _ _ _ ⟨F4,ρ4,fps4,_,R4.ext e4,hb,fun z hzz F5 H5 u e5 r5=> ?_⟩
     obtain ⟨n5,h5⟩:=up ((e3.trans e4).trans e5)
     have e25:=(e3.trans e4).trans e5
     refine ⟨acc,h5,by rw [ra.length];omega,F5,acc++[u],done++[z], ?_,n5,upd_same,(ra.mono e25.f).append (.cons r5 .nil),by simp;omega, ?_⟩
     ·exact (e2.trans e25).aoQ nA n5 h5
     ·have:(fun ys=>P (.lst (done++[z]++ys)))=fun ys=>P (.lst (done++z::ys)):=by funext ys;simp
      rw [this];exact hzz
    |false=>
     rw [if_neg Bool.false_ne_true] at hb ⊢
     have e24:=e3.trans e4
     obtain ⟨n4,h4⟩:=up e24
     exact ⟨F4,acc,done,e2.trans e24,n4,h4,ra.mono e24.f,by omega,hb⟩
  ·have e:i=xs.length:=by omega
   subst e
   rw [List.drop_length] at q2
   refine .inl ⟨it.stop H2 (e2.f.trans e2.w) (((R.ext e1).ext e2).x.n), ?_⟩
   unfold lcD at q2
   rw [List.append_nil] at q2
   refine k _ q2 F2 H2 _ [A] (e1.trans e2) (.lst hA ra (by omega) nF2) (by simp) fun a ha=> ?_
   simp at ha;subst ha
   exact e1.free nA⟩
def apf:DR2
 | .int i, .int j,P=>P (.int (Builtin.bitAnd i j))
 |_,_,_=>False
def aDY:DR2
 | .int i, .int j,P=>0≤j∧P (.int (i / 2 ^ j.toNat))
 |_,_,_=>False
def aDZ(neg:Bool):DR2
 | .bl k, .bl l,P=>P (.bl (if neg then !decide (k=l) else decide (k=l)))
 |_,_,_=>False
theorem QH{x:D}(hx:bu x=true): ∀xs:List D,eY xs=true→((j9 xs).any fun z=>PyData.eqv z (mW x))=xs.any fun y=>eqD y x
 |[],_=>rfl
 |y::xs,h=>by
  simp only [eY,Bool.and_eq_true] at h
  simp only [j9,List.any_cons]
  rw [CG _ _ h.1 hx,QH hx xs h.2]
def V7(neg:Bool):DR2
 |x, .lst xs,P=>(bu x=true∧fL x≤60)∧(bu (.lst xs)=true∧fL (.lst xs)≤60)∧P (.bl (if neg then !(xs.any fun y=>eqD y x) else xs.any fun y=>eqD y x))
 |_,_,_=>False
theorem apg{K:PySem.W.Frag}:j8 K (rInD K) (V7 false):=by
 intro F H v w x y P Q e bx byy d k
 unfold V7 at d
 split at d
 ·rename_i xs
  have h1:=sS e bx d.1.1 d.1.2
  have h2:=sS e byy d.2.1.1 d.2.1.2
  refine ⟨_,j9 xs,h1.1,h2.1,h1.2,h2.2,k _ d.2.2 F H _ (.refl e) ?_⟩
  rw [QH d.1.1 xs (by simpa [bu] using d.2.1.1)]
  exact .bl _
 ·exact d.elim
theorem adV{K:PySem.W.Frag}:j8 K (rNotInD K) (V7 true):=by
 intro F H v w x y P Q e bx byy d k
 unfold V7 at d
 split at d
 ·rename_i xs
  have h1:=sS e bx d.1.1 d.1.2
  have h2:=sS e byy d.2.1.1 d.2.1.2
  refine ⟨_,j9 xs,h1.1,h2.1,h1.2,h2.2,k _ d.2.2 F H _ (.refl e) ?_⟩
  rw [QH d.1.1 xs (by simpa [bu] using d.2.1.1)]
  exact .bl _
 ·exact d.elim
theorem atD(hu:X.A.units+65<cLine):CN X .In (V7 false):=⟨_,apg,op_inD hu⟩
theorem aje(hu:X.A.units+65<cLine):CN X .NotIn (V7 true):=⟨_,adV,op_notInD hu⟩
theorem abu{k:Nat}{A:Around}(r:Room k A):A.units+65<cLine:=by have:=r.un;omega
def avM(f f':DR2)(da db dc:DE):DE:=fun ρ P=>da ρ fun x=>db ρ fun y=>f x y fun z=>match z with| .bl k=>(if k=true then dc ρ fun w=>f' y w P else P (.bl false))|_=>False
end
end DL
end
section
namespace DL
open PySem L2
variable[bG]
inductive sX(K:PySem.W.Frag)(F H:Hp):List Bool→List V→List D→Prop
 |nil:sX K F H [] [] []
 |sh {ms:List Bool} {v:V} {d:D} {vs:List V} {ds:List D}:Rep K F v d→sX K F H ms vs ds→sX K F H (false::ms) (v::vs) (d::ds)
 |bo {ms:List Bool} {v:V} {d:D} {vs:List V} {ds:List D}:jR K F H v d→sX K F H ms vs ds→sX K F H (true::ms) (v::vs) (d::ds)
theorem sX.length{K:PySem.W.Frag}{F H:Hp}: ∀{ms:List Bool} {vs:List V} {ds:List D},sX K F H ms vs ds→vs.length=ds.length
 |_,_,_, .nil=>rfl
 |_,_,_, .sh _ r=>by simp [r.length]
 |_,_,_, .bo _ r=>by simp [r.length]
def slM:List Bool→List D→List Sl
 |true::ms,d::ds=> .bo d::slM ms ds
 |_::ms,d::ds=> .sh d::slM ms ds
 |_,_=>[]
def lU(N:List Str)(ms:List Bool)(ds:List D):Rh:=slM ms ds++List.replicate (N.length - ds.length) Sl.no
theorem rF{K:PySem.W.Frag}{F H H':Hp}: ∀{ms:List Bool} {vs:List V} {ds:List D} (n:Nat),sX K F H ms vs ds→bB K F H F H' (vs.map some++List.replicate n none) (slM ms ds++List.replicate n Sl.no) (ds.map (fun _=>[])++List.replicate n [])
 |_,_,_,0, .nil=> .nil
 |_,_,_,n+1, .nil=> .cons .no (rF n .nil)
 |_,_,_,n, .sh h r=> .cons (.sh h) (rF n r)
 |_,_,_,n, .bo h r=> .cons (.bo h) (rF n r)
def avN(K:PySem.W.Frag)(ms:List Bool)(S:bK):Sp:=fun vs H Q _=> ∃F ds P,(Same F H∧pK F H)∧sX K F H ms vs ds∧S ds P∧ ∀x,P x→ ∀F' H' v,Ext F H F' H'→Rep K F' v x→Q v H'
section
variable{P:Program}{w:World}{K:PySem.W.Frag}{mg:Str→Option Value}{base:Heap}
end
structure aFi(P:Program)(w:World)(K:PySem.W.Frag)(mg:Str→Option Value)(base:Heap)(x:Str)(k:Nat)(ms:List Bool)(S:bK):Prop where
 ex: ∃f fd ps,FnOk P w K mg base CX0 k f fd ps (avN K ms S)∧mg x=some (.ref f)∧PySem.W.keepIn K (.ref f)=true∧Binds K fd ps []
section
variable{X:Cx}{F0 H0:Hp}{e a b c:Expr}{es:List Expr}{pos p:Pos}{x:Str}
def aAF(K:PySem.W.Frag)(F0 H0:Hp)(ms:List Bool)(d:DA):TA:=fun σ H Q=> ∃F ρ fps P,bJ K F0 H0 F H σ ρ fps∧d ρ P∧ ∀xs,P xs→ ∀F' H' vs,Ext F H F' H'→sX K F' H' ms vs xs→Q vs H'
abbrev LAM(X:Cx)(F0 H0:Hp)(ms:List Bool)(es:List Expr)(d:DA):Prop:=PA X es (aAF X.K F0 H0 ms d)
theorem sY:LAM X F0 H0 [] [] aF:=paW pa_nil fun σ H Q ⟨F,ρ,fps,P,E,q,k⟩=>k _ q F H _ (.refl E.x.w) .nil
theorem iQ{ms:List Bool}{da:DE}{dr:DA}(ha:LE X F0 H0 e da)(hr:LAM X F0 H0 ms es dr)(hs:starEach (e::es) X.env=(false,eval e X.env)::starEach es X.env:=by rfl):LAM X F0 H0 (false::ms) (e::es) (aj da dr):=
 paW (pa_cons ha hr hs) fun σ H Q ⟨F,ρ,fps,P,E,q,k⟩=>⟨F,ρ,fps,_,E,q,fun x hx F1 H1 v e1 r1=>
  ⟨F1,ρ,fps,_,E.ext e1,hx,fun y hy F2 H2 w e2 r2=>k _ hy F2 H2 _ (e1.trans e2) (.sh (r1.mono e2.f) r2)⟩⟩
end
def ajf(K:PySem.W.Frag)(C:Addr)(ms:List Bool)(S:d9):Sp:=fun vs H Q _=> ∃F H1 x dx vs' ds P,vs= .ref x::vs'∧H=upd (upd H1 dx (.own x)) x (.ins C dx [])∧H1 x=none∧H1 dx=none∧dx≠x∧(Same F H1∧pK F H1)∧sX K F H1 ms vs' ds∧S ds P∧
 ∀gs,P gs→ ∀F' H',Ext F H1 F' H'→Rep K F' (.ref x) (.obj C gs)→Q .non H'
section
variable{P:Program}{w:World}{K:PySem.W.Frag}{mg:Str→Option Value}{base:Heap}
end
structure aFj(P:Program)(w:World)(K:PySem.W.Frag)(mg:Str→Option Value)(base:Heap)(x:Str)(C:Addr)(k:Nat)(ms:List Bool)(S:d9):Prop where
 ex: ∃f fd ps,Mk K C f∧FnOk P w K mg base CX0 k f fd ps (ajf K C ms S)∧mg x=some (.ref C)∧Binds K fd ps []
section
variable{X:Cx}{F0 H0:Hp}{e a b c:Expr}{es:List Expr}{pos p:Pos}{x:Str}
end
end DL
end
section
namespace DL
open PySem L2
variable[bG]
section
variable{X:Cx}{F0 H0:Hp}{e a b c o:Expr}{pos p apos:Pos}
def aAG(i:Nat):DS:=fun E ρ=>match ρ[i]? with|some (.ow (.lst _))=>E.nx (ρ.set i (.ow (.lst [])))|_=>False
end
end DL
end
section
namespace DL
open PySem L2
variable[bG]
def aFk(o i:Scope):Scope:={ i with names:=i.names.map fun (n,k)=>if (k==NameKind.free&&o.kind== .function&&o.names.lookup n==some .cell) then (n,NameKind.cell) else (n,k) }
def ajg(K:PySem.W.Frag)(ms:List Bool)(S:bK):Sp:=fun vs H Q _=> ∃F ds P,(Same F H∧pK F H)∧sX K F H ms vs ds∧S ds P∧ ∀x,P x→ ∀F' H' v fp,Ext F H F' H'→Own K F' H' v x fp→fp.Nodup→(∀a∈fp,H a=none)→Q v H'
section
variable{P:Program}{w:World}{K:PySem.W.Frag}{mg:Str→Option Value}{base:Heap}
end
structure aFl(P:Program)(w:World)(K:PySem.W.Frag)(mg:Str→Option Value)(base:Heap)(x:Str)(k:Nat)(ms:List Bool)(S:bK):Prop where
 ex: ∃f fd ps,FnOk P w K mg base CX0 k f fd ps (ajg K ms S)∧mg x=some (.ref f)∧PySem.W.keepIn K (.ref f)=true∧Binds K fd ps []
theorem gU.frz{K:PySem.W.Frag}{F H F' H':Hp}(e:Ext F H F' H'): ∀{vs:List V} {ds:List D} {fp:List Addr},gU K F' H' vs ds fp→fp.Nodup→(∀a∈fp,H a=Option.none)→ ∃F2,Ext F H F2 H'∧Same F' F2∧aY K F2 vs ds∧ ∀b,b∉fp→F2 b=F' b
 |_,_,_, .nil,_,_=>⟨F',e,fun _ _ h=>h, .nil,fun _ _=>rfl⟩
 |_,_,_, .sh r _ q,nd,nf=>by
  obtain ⟨F2,e2,s2,r2,k2⟩:=q.frz e nd nf
  exact ⟨F2,e2,s2, .cons (r.mono s2) r2,k2⟩
 |_,_,_, .ow (a:=a) (ws:=ws) h r z n q,nd,nf=>by
  rw [List.nodup_cons] at nd
  obtain ⟨F2,e2,s2,r2,k2⟩:=q.frz e nd.2 fun b hb=>nf b (List.mem_cons_of_mem _ hb)
  have n2:F2 a=Option.none:=by rw [k2 a nd.1];exact n
  have sm:=aN (o:= .lst ws) n2
  refine ⟨L2.upd F2 a (.lst ws),e2.ahB (nf a (by simp)) n2 h,s2.trans sm, .cons (.lst (.of upd_same) z (r.mono (s2.trans sm))) (r2.mono sm),fun b hb=> ?_⟩
  ·rw [List.mem_cons,not_or] at hb
   rw [upd_ne hb.1];exact k2 b hb.2
theorem Own.frz{K:PySem.W.Frag}{F H F' H':Hp}{v:V}{x:D}{fp:List Addr}(e:Ext F H F' H')(o:Own K F' H' v x fp)(nd:fp.Nodup)(nf: ∀a∈fp,H a=Option.none): ∃F2,Ext F H F2 H'∧Rep K F2 v x:=by
 have fin: ∀(a:Addr) (u:HO),H' a=some u→F' a=Option.none→H a=Option.none→Ext F H (upd F' a u) H':=fun a u g n z=>
  e.ahB z n g
 cases o with
 |lst g r z n=>exact ⟨_,fin _ _ g n (nf _ (by simp)), .lst (.of upd_same) z (r.mono (aN n))⟩
 |obj g r n=>exact ⟨_,fin _ _ g n (nf _ (by simp)), .obj upd_same (r.mono (aN n))⟩
 |dct g k o r n=>exact ⟨_,fin _ _ g n (nf _ (by simp)), .dct upd_same k o (r.mono (aN n))⟩
 |nct w g k b r n=>exact ⟨_,fin _ _ g n (nf _ (by simp)), .nct w upd_same k (b.mono (aN n)) (r.mono (aN n))⟩
 |tup h q z n=>
  rename_i a vs xs fp
  rw [List.nodup_cons] at nd
  obtain ⟨F2,e2,s2,r2,k2⟩:=q.frz e nd.2 fun b hb=>nf b (List.mem_cons_of_mem _ hb)
  have n2:F2 a=Option.none:=by rw [k2 a nd.1];exact n
  have sm:=aN (o:= .tup vs) n2
  exact ⟨upd F2 a (.tup vs),e2.ahB (nf a (by simp)) n2 h, .tup (.of upd_same) z (r2.mono sm)⟩
section
variable{X:Cx}{F0 H0:Hp}{e a b c o:Expr}{es:List Expr}{pos p apos:Pos}{x:Str}
def atE(i:Nat):DS:=fun E ρ=>match ρ[i]? with|some (.ow x)=>E.rn x|_=>False
def aAH(da:DE):DS:=fun E ρ=>da ρ E.rn
theorem aAI{elt iter tg:Expr}{ifs:List Expr}{scope:Scope}{own:List (Str×Nat)}{is:List Nat}{g:TG}{di:DI}{dg:DG}{dt:DT}{de:DE}(hc:X.calm=true)(hN:X.N.Nodup)(hi:LI X F0 H0 tg iter di)(ok:BlkOk X.N X.env.scope scope own)
  (pg: ∀(s:Shared) (H:Hp) (C:Addr) (cl:List (Str×Addr)) (fp:List Addr),PG (X.blk s H scope (compEnvC scope cl C X.env) fp) tg g) (hg:CK X.K g dg is) (his:(is.all fun i=>(own.map (·.2)).contains i)=true)
  (ht: ∀(s:Shared) (H:Hp) (C:Addr) (cl:List (Str×Addr)) (fp:List Addr),PTs (X.blk s H scope (compEnvC scope cl C X.env) fp) ifs (Qo X.K F0 H0 dt))
  (he: ∀(s:Shared) (H:Hp) (C:Addr) (cl:List (Str×Addr)) (fp:List Addr),LE (X.blk s H scope (compEnvC scope cl C X.env) fp) F0 H0 elt de) (hs: ∀x,foldedSetIterable iter X.env x=pure x:=by intro _;rfl):
  LN X F0 H0 (.ListComp elt [⟨tg,iter,ifs,0⟩] scope pos) (dLc (own.map (·.2)) di dg dt de):=
 peW (pe_lc hc hN hi ok pg ht he hs) (ape (fun _ _ _ q=>q) hg (fun i hi=>by simpa using List.all_eq_true.mp his i hi) (fun _ _ _ q=>q) fun _ _ _ q=>q)
theorem bB.keep{K:PySem.W.Frag}{F0 H0:Hp}{F H:Hp}{a:Addr}{u:HO}: ∀{σ:L2.St} {ρ:Rh} {fps:List (List Addr)},bB K F0 H0 F H σ ρ fps→a∉fps.flatten→bB K F0 H0 F (upd H a u) σ ρ fps:=by
 intro σ ρ fps h
 induction h with
 |nil=>intro _;exact .nil
 |cons q r ih=>
  intro n
  rw [List.flatten_cons,List.mem_append,not_or] at n
  refine .cons ?_ (ih n.2)
  cases q with
  |no=>exact .no
  |sh r=>exact .sh r
  |bo r=>exact .bo r
  |bg r nn=>exact .bg r nn
  |dk h r f=>exact .dk (by rw [upd_ne (fun e=>n.1 (by simp [e]))];exact h) r f
  |nl h q z f=>
   have m:=n.1
   rw [List.mem_cons,not_or] at m
   exact .nl (by rw [upd_ne (fun e=>m.1 e.symm)];exact h) (q.t_ m.2) z f
  |gn h q=>exact .gn (h.t_ n.1) q
  |ow o=>
   exact .ow (o.t_ n.1)
def aAJ(da db:DE):DS:=fun E ρ=>da ρ fun x=>match x with| .lst xs=>db ρ fun _=>xs.length<sizeLine∧E.nx ρ|_=>False
def aAK(da:DE):DS:=fun E ρ=>da ρ fun x=>match x with| .lst _=>E.nx ρ|_=>False
def aAL:DR2
 | .lst a, .lst b,P=>a.length+b.length≤sizeLine∧P (.lst (a++b))
 |_,_,_=>False
def Yo(lo hi:Option Int):DR1
 | .lst xs,P=>P (.lst (cut xs lo hi))
 |_,_=>False
def aD0(da:DE)(dl dh:DO):DE:=fun ρ P=>da ρ fun x=>dl ρ fun lo=>dh ρ fun hi=>Yo lo hi x P
end
end DL
end
section
namespace DL
open PySem L2
variable[bG]
def QJ(x:D)(P:Bool→Prop):Prop:=match x with| .bl k=>P k|_=>False
def zQ(x:D)(P:Int→Prop):Prop:=match x with| .int k=>P k|_=>False
def ajh(x:D)(P:Tx→Prop):Prop:=match x with| .str k=>P k|_=>False
def dJ{α:Type}(x:Option α)(P:α→Prop):Prop:=match x with|some k=>P k|none=>False
def ifB(k:Bool)(t f:Unit→Prop):Prop:=if k=true then t () else f ()
def ap(S:bK)(xs:List D)(P:D→Prop):Prop:=S xs P
def apI(S:d9)(xs:List D)(P:List (Str×D)→Prop):Prop:=S xs P
def afw(x:D)(T:Addr→Prop)(f:Str)(P:D→Prop):Prop:=match x with| .obj C gs=>T C∧dJ (gs.lookup f) P|_=>False
def adW(M:rD)(m:Str)(C:Addr)(gs:List (Str×D))(dr:DA)(ρ:Rh)(P:D→Prop):Prop:=gs.lookup m=none∧ ∃S,M C S∧dr ρ fun xs=>ap S (.obj C gs::xs) P
def Ay(x:D)(M:rD)(m:Str)(dr:DA)(ρ:Rh)(P:D→Prop):Prop:=match x with| .obj C gs=>adW M m C gs dr ρ P|_=>False
def aji(xs:List D)(PL:List D→Prop):Prop:=match xs with|[.int n]=>fM n∧PL (oX 0 n.toNat)|_=>False
def ajj(xs:List D)(PL:List D→Prop):Prop:=match xs with|[.int m, .int n]=>(fM m∧fM n)∧PL (oX m (n - m).toNat)|_=>False
def aph(vs:List D)(PL:List D→Prop):Prop:=match vs with
 |[x,y]=>(match dW x,dW y with|some xs,some ys=>PL ((xs.zip ys).map fun p=> .tup [p.1,p.2])|_,_=>False)
 |_=>False
def ajk(vs:List D)(PL:List D→Prop):Prop:=match vs with
 |[.lst xs]=>PL ((List.range xs.length).zip xs |>.map fun p=> .tup [.int (p.1:Nat),p.2])
 |_=>False
def iw(i:Nat)(s:Sl)(ρ:Rh)(P:Rh→Prop):Prop:=P (ρ.set i s)
def iI(i:Nat)(ρ:Rh)(P:D→Prop):Prop:=match ρ[i]? with|some (.ow x)=>P x|_=>False
def avO(x:D)(i:Nat)(da:DE)(E:DEn)(ρ:Rh):Prop:=match x with| .lst xs=>da ρ fun y=>xs.length<sizeLine∧iw i (.ow (.lst (xs++[y]))) ρ E.nx|_=>False
theorem afx(a b:Tx):eqD (.str a) (.str b)=decide (a=b):=xm (by simp)
theorem afy(a b:Int):eqD (.int a) (.int b)=decide (a=b):=xm (by simp)
def avP(f:DR2)(db:DE)(ρ:Rh)(P:D→Prop)(x:D):Prop:=db ρ fun y=>f x y P
def api(f:DR2)(x:D)(P:D→Prop)(y:D):Prop:=f x y P
def unK(f:DR1)(P:D→Prop)(x:D):Prop:=f x P
def aAM(PB:Bool→Prop)(x:D):Prop:=QJ x PB
def avQ(PB:Bool→Prop)(x:D):Prop:=dJ (abo x) PB
def teT(dt:DT)(ρ:Rh)(PB:Bool→Prop)(_z:Unit):Prop:=dt ρ PB
def bT(PB:Bool→Prop)(k:Bool)(_z:Unit):Prop:=PB k
def aAN(db:DT)(ρ:Rh)(PB:Bool→Prop)(k:Bool):Prop:=ifB k (teT db ρ PB) (bT PB false)
def orK(db:DT)(ρ:Rh)(PB:Bool→Prop)(k:Bool):Prop:=ifB k (bT PB true) (teT db ρ PB)
def aAO(PB:Bool→Prop)(k:Bool):Prop:=PB (!k)
def veT(da:DE)(ρ:Rh)(P:D→Prop)(_z:Unit):Prop:=da ρ P
def cT(P:D→Prop)(k:Bool)(_z:Unit):Prop:=P (.bl k)
def adX(db:DE)(ρ:Rh)(P:D→Prop)(k:Bool):Prop:=ifB k (veT db ρ P) (cT P false)
def atF(db:DE)(ρ:Rh)(P:D→Prop)(x:D):Prop:=QJ x (adX db ρ P)
def ajl(db:DE)(ρ:Rh)(P:D→Prop)(k:Bool):Prop:=ifB k (cT P true) (veT db ρ P)
def aAP(db:DE)(ρ:Rh)(P:D→Prop)(x:D):Prop:=QJ x (ajl db ρ P)
def adY(P:D→Prop)(k:Bool):Prop:=P (.bl !k)
def atG(P:D→Prop)(x:D):Prop:=QJ x (adY P)
def aAQ(da db:DE)(ρ:Rh)(P:D→Prop)(k:Bool):Prop:=ifB k (veT da ρ P) (veT db ρ P)
def stT(d:DS)(E:DEn)(ρ:Rh)(_z:Unit):Prop:=d E ρ
def ahH(d1 d2:DS)(E:DEn)(ρ:Rh)(k:Bool):Prop:=ifB k (stT d1 E ρ) (stT d2 E ρ)
def ajm(dr:DA)(ρ:Rh)(PL:List D→Prop)(x:D):Prop:=dr ρ fun xs=>PL (x::xs)
def ajn(x:D)(PL:List D→Prop)(xs:List D):Prop:=PL (x::xs)
def aAR(P:D→Prop)(xs:List D):Prop:=xs.length≤sizeLine∧P (.tup xs)
def atH(P:D→Prop)(xs:List D):Prop:=xs.length≤sizeLine∧P (.lst xs)
def aAS(P:D→Prop)(c:Nat):Prop:=P (.str [c])
def ajo(PO:Option Int→Prop)(a:Int):Prop:=PO (some a)
def atJ(PO:Option Int→Prop)(x:D):Prop:=zQ x (ajo PO)
def aAT(dl dh:DO)(ρ:Rh)(P:D→Prop)(x:D):Prop:=dl ρ fun lo=>dh ρ fun hi=>Zx lo hi x P
def aAU(x:D)(dh:DO)(ρ:Rh)(P:D→Prop)(lo:Option Int):Prop:=dh ρ fun hi=>Zx lo hi x P
def aAV(x:D)(lo:Option Int)(P:D→Prop)(hi:Option Int):Prop:=Zx lo hi x P
def avR(x:D)(P:D→Prop)(a:Int):Prop:=a= -1∧ai3 x P
def avS(x:D)(P:D→Prop)(y:D):Prop:=zQ y (avR x P)
def aAW(dk:DE)(ρ:Rh)(P:D→Prop)(x:D):Prop:=dk ρ (avS x P)
def atL(E:DEn)(ρ:Rh)(_x:D):Prop:=E.nx ρ
def gNK(s:Sl)(PR:Rh→Prop)(r:Rh):Prop:=PR (s::r)
def gCK(u:DGs)(xs:List D)(PR:Rh→Prop)(ρ:Rh):Prop:=u xs ρ PR
def avT(dg:DG)(ρ:Rh)(E:DEn)(x:D):Prop:=dg x ρ E.nx
def atM(i:Nat)(ρ:Rh)(E:DEn)(x:D):Prop:=iw i (.ow x) ρ E.nx
def atN(xs:List D)(i:Nat)(E:DEn)(ρ:Rh)(y:D):Prop:=xs.length<sizeLine∧iw i (.ow (.lst (xs++[y]))) ρ E.nx
def atO(i:Nat)(da:DE)(E:DEn)(ρ:Rh)(x:D):Prop:=avO x i da E ρ
def aAX(i:Nat)(d1:DS)(E:DEn)(ρ:Rh)(x:D):Prop:=Qn x∧iw i (.sh x) ρ (d1 E)
def apK(S:bK)(P:D→Prop)(xs:List D):Prop:=ap S xs P
def avU(C:Addr)(P:D→Prop)(gs:List (Str×D)):Prop:=P (.obj C gs)
def mkK(C:Addr)(S:d9)(P:D→Prop)(xs:List D):Prop:=apI S xs (avU C P)
def aAY(f:List D→(D→Prop)→Prop)(P:D→Prop)(xs:List D):Prop:=f xs P
def itK(PL:List D→Prop)(x:D):Prop:=dJ (kh x) PL
def atQ(PL:List D→Prop)(xs:List D):Prop:=aji xs PL
def atR(PL:List D→Prop)(xs:List D):Prop:=ajj xs PL
def afz(xs:List D)(PL:List D→Prop)(ys:List D):Prop:=PL ((xs.zip ys).map fun p=> .tup [p.1,p.2])
def ajp(y:D)(PL:List D→Prop)(xs:List D):Prop:=dJ (dW y) (afz xs PL)
def atU(PL:List D→Prop)(vs:List D):Prop:=aph vs PL
def atV(PL:List D→Prop)(vs:List D):Prop:=ajk vs PL
def aAZ(dg:DG)(db:DS)(E:DEn)(ρ:Rh)(xs:List D):Prop:=wU dg db E xs ρ
def ajq(P:D→Prop)(xs:List D):Prop:=P (.lst xs)
def lcK(vs:List Nat)(dg:DG)(dt:DT)(de:DE)(ρ:Rh)(P:D→Prop)(xs:List D):Prop:=xs.length≤sizeLine∧lcD vs dg dt de ρ xs (ajq P)
def avV(T:Addr→Prop)(f:Str)(P:D→Prop)(x:D):Prop:=afw x T f P
def atX(M:rD)(m:Str)(dr:DA)(ρ:Rh)(P:D→Prop)(x:D):Prop:=Ay x M m dr ρ P
def ajr(S:bK)(x:D)(P:D→Prop)(xs:List D):Prop:=ap S (x::xs) P
def aA0(P:D→Prop)(ns:List Int):Prop:=P (.int ns.sum)
def aA1(P:D→Prop)(ns:List Bool):Prop:=P (.bl (ns.all id))
def aA2(P:D→Prop)(ns:List Bool):Prop:=P (.bl (ns.any id))
def blK(P:D→Prop)(k:Bool):Prop:=P (.bl k)
def avW(n:String)(P:D→Prop)(t:String):Prop:=dJ (kitB t n) (blK P)
def ajs(u:Tx)(P:D→Prop)(ts:List Tx):Prop:=(ts.map (·.length)).sum+ts.length*u.length≤16777216∧P (.str (xM u ts))
def adZ(u:Tx)(P:D→Prop)(x:D):Prop:=Hu u x P
def ad0(da:DE)(ρ:Rh)(P:D→Prop)(u:Tx):Prop:=da ρ (adZ u P)
def ajt(da:DE)(ρ:Rh)(P:D→Prop)(x:D):Prop:=ajh x (ad0 da ρ P)
def inK(f:Str)(gs:List (Str×D))(PG:List (Str×D)→Prop)(y:D):Prop:=gs.length<1000∧PG (abg f y gs)
def aA3(u:DIn)(ρ:Rh)(PG:List (Str×D)→Prop)(gs:List (Str×D)):Prop:=u ρ gs PG
def aju(xs:List D)(i:Nat)(y:D)(E:DEn)(ρ:Rh)(a:Int):Prop:=(0≤a∧a<xs.length)∧iw i (.ow (.lst (xs.set a.toNat y))) ρ E.nx
def ajv(xs:List D)(i:Nat)(y:D)(E:DEn)(ρ:Rh)(z:D):Prop:=zQ z (aju xs i y E ρ)
def avX(i:Nat)(y:D)(di:DE)(E:DEn)(ρ:Rh)(x:D):Prop:=match x with| .lst xs=>di ρ (ajv xs i y E ρ)|_=>False
def ajw(i:Nat)(di:DE)(E:DEn)(ρ:Rh)(y:D):Prop:=iI i ρ (avX i y di E ρ)
def chT(f:DR2)(y:D)(dc:DE)(ρ:Rh)(P:D→Prop)(_z:Unit):Prop:=dc ρ (api f y P)
def avY(f:DR2)(y:D)(dc:DE)(ρ:Rh)(P:D→Prop)(k:Bool):Prop:=ifB k (chT f y dc ρ P) (cT P false)
def avZ(f:DR2)(y:D)(dc:DE)(ρ:Rh)(P:D→Prop)(z:D):Prop:=QJ z (avY f y dc ρ P)
def av0(f:DR2)(g:DR2)(x:D)(dc:DE)(ρ:Rh)(P:D→Prop)(y:D):Prop:=f x y (avZ g y dc ρ P)
def aA4(f:DR2)(g:DR2)(db dc:DE)(ρ:Rh)(P:D→Prop)(x:D):Prop:=db ρ (av0 f g x dc ρ P)
def aA5(i:Nat)(E:DEn)(ρ:Rh)(x:D):Prop:=match x with| .lst _=>iw i (.ow (.lst [])) ρ E.nx|_=>False
def atY(E:DEn)(x:D):Prop:=E.rn x
def ad1(xs:List D)(E:DEn)(ρ:Rh)(_y:D):Prop:=xs.length<sizeLine∧E.nx ρ
def ajx(db:DE)(E:DEn)(ρ:Rh)(x:D):Prop:=match x with| .lst xs=>db ρ (ad1 xs E ρ)|_=>False
def atZ(E:DEn)(ρ:Rh)(x:D):Prop:=match x with| .lst _=>E.nx ρ|_=>False
def at4(dl dh:DO)(ρ:Rh)(P:D→Prop)(x:D):Prop:=dl ρ fun lo=>dh ρ fun hi=>Yo lo hi x P
def at5(x:D)(dh:DO)(ρ:Rh)(P:D→Prop)(lo:Option Int):Prop:=dh ρ fun hi=>Yo lo hi x P
def at6(x:D)(lo:Option Int)(P:D→Prop)(hi:Option Int):Prop:=Yo lo hi x P
section
variable{i j:Nat}{s t:Sl}{d x y:D}{ρ:Rh}{P:D→Prop}{PR:Rh→Prop}{PB:Bool→Prop}{PL:List D→Prop}{PO:Option Int→Prop}{E:DEn}{a b:Int}{k l:Bool}{u v:Tx}{xs ys:List D}{f:DR2}{f1:DR1}{da db dk do_:DE}{dr:DA}{dt dc:DT}{dl dh:DO}{di:DI}{dg:DG}{dgs:DGs}{d1 d2:DS}{i1 i2:DIn}{C:Addr}{gs:List (Str×D)}{PG:List (Str×D)→Prop}{S:bK}{SI:d9}{M:rD}{m fl:Str}{n:Bool}{lo hi:Option Int}{f2:DR2}{dz:DE}{F:List D→(D→Prop)→Prop}{vs:List Nat}{T:Addr→Prop}{ns:List Int}{bs:List Bool}{ts:List Tx}{n1 t1:String}
theorem ajy:(aA 0 (.sh d::ρ) P)=(P d):=id rfl
theorem ajz:(aA (i+1) (s::ρ) P)=(aA i ρ P):=id rfl
theorem afA:(aq 0 (.sh d::ρ) P)=(P d):=id rfl
theorem abv:(aq 0 (.ow d::ρ) P)=(Qn d∧P d):=id rfl
theorem at7:(Qn (.lst xs))=(True):=id rfl
theorem at8:(Qn (.obj C gs))=(True):=id rfl
theorem afB:(aq (i+1) (s::ρ) P)=(aq i ρ P):=id rfl
theorem q_c:(dC d ρ P)=(P d):=id rfl
theorem aA6:(dOp f da db ρ P)=(da ρ (avP f db ρ P)):=id rfl
theorem ajA:(avP f db ρ P x)=(db ρ (api f x P)):=id rfl
theorem ajB:(api f x P y)=(f x y P):=id rfl
theorem aA7:(dUn f1 da ρ P)=(da ρ (unK f1 P)):=id rfl
theorem at9:(unK f1 P x)=(f1 x P):=id rfl
theorem abw:(fH (.int a) (.int b) P)=(P (.int (a+b))):=id rfl
theorem abx:(fH (.str u) (.str v) P)=((u.length+v.length≤sizeLine∧P (.str (u++v)))):=id rfl
theorem aby:(fH (.lst xs) (.lst ys) P)=((xs.length+ys.length≤sizeLine∧P (.lst (xs++ys)))):=id rfl
theorem aua:(Mh (.int a) (.int b) P)=(P (.int (a - b))):=id rfl
theorem aub:(abl (.int a) (.int b) P)=(((a.natAbs<18446744073709551616∨b.natAbs<18446744073709551616)∧P (.int (a*b)))):=id rfl
theorem auc:(mX (.int a) (.int b) P)=((0<b∧P (.int (a%b)))):=id rfl
theorem ajC:(sO (.int a) (.int b) P)=(((0<b∧b<1073741824)∧P (.int (a / b)))):=id rfl
theorem aud:(aiO (.int a) (.int b) P)=(((0≤b∧b≤1000000∧a.natAbs<2 ^ 64)∧P (.int (a ^ b.toNat)))):=id rfl
theorem aue:(Mi (.int a) P)=(P (.int (-a))):=id rfl
theorem afC:(dEq (.bl k) (.bl l) P)=(P (.bl ((k==l)))):=id rfl
theorem afD:(dEq (.int a) (.int b) P)=(P (.bl (decide (a=b)))):=by simp [dEq,bu,fL,afy]
theorem afE:(dEq (.str u) (.str v) P)=(P (.bl (decide (u=v)))):=by simp [dEq,bu,fL,afx]
theorem abz:(dEq (.lst xs) (.lst ys) P)=(((bu (.lst xs)=true∧fL (.lst xs)≤60)∧(bu (.lst ys)=true∧fL (.lst ys)≤60)∧P (.bl (eqD (.lst xs) (.lst ys))))):=id rfl
theorem abA:(dEq (.tup xs) (.tup ys) P)=(((bu (.tup xs)=true∧fL (.tup xs)≤60)∧(bu (.tup ys)=true∧fL (.tup ys)≤60)∧P (.bl (eqD (.tup xs) (.tup ys))))):=id rfl
theorem afF:(dNe (.bl k) (.bl l) P)=(P (.bl (!(k==l)))):=id rfl
theorem afG:(dNe (.int a) (.int b) P)=(P (.bl (!decide (a=b)))):=by simp [dNe,bu,fL,afy]
theorem afH:(dNe (.str u) (.str v) P)=(P (.bl (!decide (u=v)))):=by simp [dNe,bu,fL,afx]
theorem abB:(dNe (.lst xs) (.lst ys) P)=(((bu (.lst xs)=true∧fL (.lst xs)≤60)∧(bu (.lst ys)=true∧fL (.lst ys)≤60)∧P (.bl (!eqD (.lst xs) (.lst ys))))):=id rfl
theorem abC:(dNe (.tup xs) (.tup ys) P)=(((bu (.tup xs)=true∧fL (.tup xs)≤60)∧(bu (.tup ys)=true∧fL (.tup ys)≤60)∧P (.bl (!eqD (.tup xs) (.tup ys))))):=id rfl
theorem aA8:(dLt (.int a) (.int b) P)=(P (.bl (decide (a<b)))):=id rfl
theorem aA9:(dLe (.int a) (.int b) P)=(P (.bl (decide (a≤b)))):=id rfl
theorem aA_:(dGt (.int a) (.int b) P)=(P (.bl (decide (b<a)))):=id rfl
theorem aBa:(dGe (.int a) (.int b) P)=(P (.bl (decide (b≤a)))):=id rfl
theorem auf:(Hr n x .non P)=(P (.bl (if n then !sU x else sU x))):=id rfl
theorem ajD:(dIn n (.str [j]) (.str v) P)=(P (.bl (if n then !decide (j∈v) else decide (j∈v)))):=id rfl
theorem CP:(dIn n (.int a) (.lst xs) P)=(((true=true∧xs.all m_=true)∧P (.bl (if n then !xs.any (fun y=>eqD y (.int a)) else xs.any (fun y=>eqD y (.int a)))))):=id rfl
theorem CQ:(dIn n (.int a) (.tup xs) P)=(((true=true∧xs.all m_=true)∧P (.bl (if n then !xs.any (fun y=>eqD y (.int a)) else xs.any (fun y=>eqD y (.int a)))))):=id rfl
theorem CT:(dIn n (.str u) (.lst xs) P)=(((true=true∧xs.all m_=true)∧P (.bl (if n then !xs.any (fun y=>eqD y (.str u)) else xs.any (fun y=>eqD y (.str u)))))):=by
 cases u with
 |nil=>rfl
 |cons c r=>cases r<;>rfl
theorem CV:(dIn n (.str u) (.tup xs) P)=(((true=true∧xs.all m_=true)∧P (.bl (if n then !xs.any (fun y=>eqD y (.str u)) else xs.any (fun y=>eqD y (.str u)))))):=by
 cases u with
 |nil=>rfl
 |cons c r=>cases r<;>rfl
theorem auh:(cW da ρ PB)=(da ρ (aAM PB)):=id rfl
theorem ajE:(aAM PB x)=(QJ x PB):=id rfl
theorem aui:(aAj da ρ PB)=(da ρ (avQ PB)):=by
 unfold aAj
 congr 1
 funext x
 unfold avQ dJ
 cases abo x<;>rfl
theorem ajF:(avQ PB x)=(dJ (abo x) PB):=id rfl
theorem auj:(teT dt ρ PB ())=(dt ρ PB):=id rfl
theorem aBb:(bT PB k ())=(PB k):=id rfl
theorem ajG:(sV dt dc ρ PB)=(dt ρ (aAN dc ρ PB)):=id rfl
theorem ajH:(aAN dt ρ PB k)=(ifB k (teT dt ρ PB) (bT PB false)):=id rfl
theorem auk:(V5 dt dc ρ PB)=(dt ρ (orK dc ρ PB)):=id rfl
theorem aul:(orK dt ρ PB k)=(ifB k (bT PB true) (teT dt ρ PB)):=id rfl
theorem ajI:(Qs dt ρ PB)=(dt ρ (aAO PB)):=id rfl
theorem ajJ:(aAO PB k)=(PB (!k)):=id rfl
theorem aum:(veT da ρ P ())=(da ρ P):=id rfl
theorem aBc:(cT P k ())=(P (.bl k)):=id rfl
theorem abD:(adX db ρ P k)=(ifB k (veT db ρ P) (cT P false)):=id rfl
theorem afI:(atF db ρ P x)=(QJ x (adX db ρ P)):=id rfl
theorem ajK:(xF da db ρ P)=(da ρ (atF db ρ P)):=by
 unfold xF
 congr 1
 funext x
 cases x<;>first|rfl|(rename_i k;cases k<;>rfl)
theorem afJ:(ajl db ρ P k)=(ifB k (cT P true) (veT db ρ P)):=id rfl
theorem ajL:(aAP db ρ P x)=(QJ x (ajl db ρ P)):=id rfl
theorem aun:(aAk da db ρ P)=(da ρ (aAP db ρ P)):=by
 unfold aAk
 congr 1
 funext x
 cases x<;>first|rfl|(rename_i k;cases k<;>rfl)
theorem abE:(adY P k)=(P (.bl !k)):=id rfl
theorem afK:(atG P x)=(QJ x (adY P)):=id rfl
theorem ajM:(aiW da ρ P)=(da ρ (atG P)):=id rfl
theorem ajN:(aAQ da db ρ P k)=(ifB k (veT da ρ P) (veT db ρ P)):=id rfl
theorem aBd:(dIf dc da db ρ P)=(dc ρ (aAQ da db ρ P)):=id rfl
theorem auo:(stT d1 E ρ ())=(d1 E ρ):=id rfl
theorem ajO:(ahH d1 d2 E ρ k)=(ifB k (stT d1 E ρ) (stT d2 E ρ)):=id rfl
theorem aup:(fX dc d1 d2 E ρ)=(dc ρ (ahH d1 d2 E ρ)):=id rfl
theorem auq:(aF ρ PL)=(PL []):=id rfl
theorem ajP:(aj da dr ρ PL)=(da ρ (ajm dr ρ PL)):=id rfl
theorem abF:(ajm dr ρ PL x)=(dr ρ (ajn x PL)):=id rfl
theorem abG:(ajn x PL xs)=(PL (x::xs)):=id rfl
theorem aur:(j_ dr ρ P)=(dr ρ (aAR P)):=id rfl
theorem ajQ:(aAR P xs)=((xs.length≤sizeLine∧P (.tup xs))):=id rfl
theorem aus:(iW dr ρ P)=(dr ρ (atH P)):=id rfl
theorem afL:(atH P xs)=((xs.length≤sizeLine∧P (.lst xs))):=id rfl
theorem ajR:(aAS P j)=(P (.str [j])):=id rfl
theorem ajS:(dIx (.lst xs) (.int a) P)=(dJ (ixD xs a) P):=by
 simp only [dIx,dJ]<;>(cases ixD xs a<;>rfl)
theorem ajT:(dIx (.tup xs) (.int a) P)=(dJ (ixD xs a) P):=by
 simp only [dIx,dJ]<;>(cases ixD xs a<;>rfl)
theorem ajU:(dIx (.str u) (.int a) P)=(dJ (ixD u a) (aAS P)):=by
 simp only [dIx,dJ]<;>(cases ixD u a<;>rfl)
theorem abH:(mZ ρ PO)=(PO none):=id rfl
theorem afM:(ajo PO a)=(PO (some a)):=id rfl
theorem afN:(atJ PO x)=(zQ x (ajo PO)):=id rfl
theorem ajV:(uF da ρ PO)=(da ρ (atJ PO)):=id rfl
theorem aBe:(dSl da dl dh ρ P)=(da ρ (aAT dl dh ρ P)):=id rfl
theorem ajW:(aAT dl dh ρ P x)=(dl ρ (aAU x dh ρ P)):=id rfl
theorem ajX:(aAU x dh ρ P lo)=(dh ρ (aAV x lo P)):=id rfl
theorem ajY:(aAV x lo P hi)=(Zx lo hi x P):=id rfl
theorem afO:(Zx lo hi (.lst xs) P)=(P (.lst (cut xs lo hi))):=id rfl
theorem afP:(Zx lo hi (.str u) P)=(P (.str (cut u lo hi))):=id rfl
theorem ajZ:(avR x P a)=((a= -1∧ai3 x P)):=id rfl
theorem aj0:(avS x P y)=(zQ y (avR x P)):=id rfl
theorem aj1:(aAW dk ρ P x)=(dk ρ (avS x P)):=id rfl
theorem aBf:(dRv da dk ρ P)=(da ρ (aAW dk ρ P)):=id rfl
theorem afQ:(ai3 (.lst xs) P)=(P (.lst xs.reverse)):=id rfl
theorem afR:(ai3 (.str u) P)=(P (.str u.reverse)):=id rfl
theorem aut:(aR d1 d2 E ρ)=(d1 { E with nx:=d2 E } ρ):=id rfl
theorem aj2:(cX E ρ)=(E.nx ρ):=id rfl
theorem auu:(avy E ρ)=(E.bk ρ):=id rfl
theorem aj3:(aAl E ρ)=(E.ct ρ):=id rfl
theorem afS:(atL E ρ x)=(E.nx ρ):=id rfl
theorem aj4:(aiY da E ρ)=(da ρ (atL E ρ)):=id rfl
theorem auv:(bY da E ρ)=(da ρ E.rt):=id rfl
theorem aj5:(aAm E ρ)=(E.rt .non):=id rfl
theorem auw:(gNK s PR ρ)=(PR (s::ρ)):=id rfl
theorem auy:(dgN 0 x (s::ρ) PR)=(PR (.sh x::ρ)):=id rfl
theorem auz:(dgN (i+1) x (s::ρ) PR)=(dgN i x ρ (gNK s PR)):=id rfl
theorem aj6:(iJ [] ρ PR)=(PR ρ):=id rfl
theorem auA:(gCK dgs xs PR ρ)=(dgs xs ρ PR):=id rfl
theorem afT:(bz dg dgs (x::xs) ρ PR)=(dg x ρ (gCK dgs xs PR)):=id rfl
theorem aBg:(dgT i dgs (.tup xs) ρ PR)=((xs.length=i∧dgs xs ρ PR)):=id rfl
theorem aj7:(avT dg ρ E x)=(dg x ρ E.nx):=id rfl
theorem auB:(bW da dg E ρ)=(da ρ (avT dg ρ E)):=id rfl
theorem afU:(iw 0 t (s::ρ) PR)=(PR (t::ρ)):=id rfl
theorem afV:(iw (i+1) t (s::ρ) PR)=(iw i t ρ (gNK s PR)):=id rfl
theorem afW:(atM i ρ E x)=(iw i (.ow x) ρ E.nx):=id rfl
theorem aj8:(pM i da E ρ)=(da ρ (atM i ρ E)):=id rfl
theorem afX:(iI 0 (.ow x::ρ) P)=(P x):=id rfl
theorem afY:(iI (i+1) (s::ρ) P)=(iI i ρ P):=id rfl
theorem afZ:(atN xs i E ρ y)=((xs.length<sizeLine∧iw i (.ow (.lst (xs++[y]))) ρ E.nx)):=id rfl
theorem af0:(atO i da E ρ x)=(avO x i da E ρ):=id rfl
theorem aj9:(avO (.lst xs) i da E ρ)=(da ρ (atN xs i E ρ)):=id rfl
theorem auC:(vM i da E ρ)=(iI i ρ (atO i da E ρ)):=by
 unfold vM iI
 cases ρ[i]? with
 |none=>rfl
 |some s=>
  cases s with
  |ow x=>cases x<;>rfl
  |_=>rfl
theorem aj_:(aAX i d1 E ρ x)=(Qn x∧iw i (.sh x) ρ (d1 E)):=id rfl
theorem auD:(zj i d1 E ρ)=(iI i ρ (aAX i d1 E ρ)):=by
 unfold zj iI
 cases ρ[i]? with
 |none=>rfl
 |some s=>cases s<;>rfl
theorem auE:(apK S P xs)=(ap S xs P):=id rfl
theorem aka:(cJ S dr ρ P)=(dr ρ (apK S P)):=id rfl
theorem akb:(avU C P gs)=(P (.obj C gs)):=id rfl
theorem auF:(mkK C SI P xs)=(apI SI xs (avU C P)):=id rfl
theorem akc:(qH C SI dr ρ P)=(dr ρ (mkK C SI P)):=id rfl
theorem akd:(aAY F P xs)=(F xs P):=id rfl
theorem ake:(bR F dr ρ P)=(dr ρ (aAY F P)):=id rfl
theorem auG:(itK PL x)=(dJ (kh x) PL):=id rfl
theorem aBh:(dIt da ρ PL)=(da ρ (itK PL)):=by
 unfold dIt
 congr 1
 funext x
 unfold itK dJ
 cases kh x<;>rfl
theorem abI:(kh (.lst xs))=(some xs):=id rfl
theorem abJ:(kh (.tup xs))=(some xs):=id rfl
theorem akf:(kh (.str u))=(some (eO u)):=id rfl
theorem akg:(dW (.lst xs))=(some xs):=id rfl
theorem akh:(dW (.str u))=(some (eO u)):=id rfl
theorem af1:(atQ PL xs)=(aji xs PL):=id rfl
theorem aki:(jY dr ρ PL)=(dr ρ (atQ PL)):=id rfl
theorem af2:(aji [.int a] PL)=((fM a∧PL (oX 0 a.toNat))):=id rfl
theorem af3:(atR PL xs)=(ajj xs PL):=id rfl
theorem akj:(aAo dr ρ PL)=(dr ρ (atR PL)):=id rfl
theorem af4:(ajj [.int a, .int b] PL)=(((fM a∧fM b)∧PL (oX a (b - a).toNat))):=id rfl
theorem af5:(afz xs PL ys)=(PL ((xs.zip ys).map fun p=> .tup [p.1,p.2])):=id rfl
theorem af6:(ajp y PL xs)=(dJ (dW y) (afz xs PL)):=id rfl
theorem af7:(atU PL xs)=(aph xs PL):=id rfl
theorem auH:(adT dr ρ PL)=(dr ρ (atU PL)):=id rfl
theorem akk:(aph [x,y] PL)=(dJ (dW x) (ajp y PL)):=by
 unfold aph
 cases h1:dW x<;>cases h2:dW y<;>simp [dJ,ajp,afz,h1,h2]
theorem af8:(atV PL xs)=(ajk xs PL):=id rfl
theorem akl:(ai4 dr ρ PL)=(dr ρ (atV PL)):=id rfl
theorem af9:(ajk [.lst xs] PL)=(PL ((List.range xs.length).zip xs |>.map fun p=> .tup [.int (p.1:Nat),p.2])):=id rfl
theorem akm:(aAZ dg d1 E ρ xs)=(wU dg d1 E xs ρ):=id rfl
theorem auI:(jr di dg d1 E ρ)=(di ρ (aAZ dg d1 E ρ)):=id rfl
theorem akn:(ajq P xs)=(P (.lst xs)):=id rfl
theorem auJ:(lcK vs dg dt da ρ P xs)=((xs.length≤sizeLine∧lcD vs dg dt da ρ xs (ajq P))):=id rfl
theorem aBi:(dLc vs di dg dt da ρ P)=(di ρ (lcK vs dg dt da ρ P)):=id rfl
theorem auK:(kZ ρ PB)=(PB true):=id rfl
theorem ako:(avV T fl P x)=(afw x T fl P):=id rfl
theorem akp:(aX T da fl ρ P)=(da ρ (avV T fl P)):=by
 unfold aX
 congr 1
 funext x
 cases x<;>first|rfl|(rename_i C fs;simp only [avV,afw,dJ]<;>(cases List.lookup fl fs<;>rfl))
theorem af_:(afw (.obj C gs) T fl P)=((T C∧dJ (gs.lookup fl) P)):=id rfl
theorem aga:(atX M m dr ρ P x)=(Ay x M m dr ρ P):=id rfl
theorem akq:(gj M m da dr ρ P)=(da ρ (atX M m dr ρ P)):=id rfl
theorem abK:(Ay (.obj C gs) M m dr ρ P)=(adW M m C gs dr ρ P):=id rfl
theorem abL:(ajr S x P xs)=(ap S (x::xs) P):=id rfl
theorem agb:(jw [.str u] P)=(P (.int u.length)):=id rfl
theorem agc:(jw [.lst xs] P)=(P (.int xs.length)):=id rfl
theorem agd:(jw [.tup xs] P)=(P (.int xs.length)):=id rfl
theorem akr:(aA0 P ns)=(P (.int ns.sum)):=id rfl
theorem auL:(aAx [.lst xs] P)=(dJ (j6 xs) (aA0 P)):=by
 simp only [aAx,dJ]<;>(cases j6 xs<;>rfl)
theorem aks:(aA1 P bs)=(P (.bl (bs.all id))):=id rfl
theorem auM:(ajb [.lst xs] P)=(dJ (ue xs) (aA1 P)):=by
 simp only [ajb,dJ]<;>(cases ue xs<;>rfl)
theorem akt:(aA2 P bs)=(P (.bl (bs.any id))):=id rfl
theorem auN:(aAz [.lst xs] P)=(dJ (ue xs) (aA2 P)):=by
 simp only [aAz,dJ]<;>(cases ue xs<;>rfl)
theorem aku:(Ym [.int a, .int b] P)=(P (.int (if b>a then b else a))):=id rfl
theorem akv:(aft [.int a, .int b] P)=(P (.int (if b<a then b else a))):=id rfl
theorem auO:(aDW [.int a] P)=(P (.int (if a<0 then -a else a))):=id rfl
theorem abM:(k_ [.lst xs] P)=(P (.lst xs)):=id rfl
theorem abN:(k_ [.tup xs] P)=(P (.lst xs)):=id rfl
theorem auP:(blK P k)=(P (.bl k)):=id rfl
theorem akx:(avW n1 P t1)=(dJ (kitB t1 n1) (blK P)):=id rfl
theorem auQ:(aAA [x, .ty n1] P)=(dJ (tyD x) (avW n1 P)):=by
 unfold aAA dJ
 cases h:tyD x with
 |none=>simp [h]
 |some t=>simp only [h,avW,dJ];cases kitB t n1<;>rfl
theorem abO:(ajs u P ts)=(((ts.map (·.length)).sum+ts.length*u.length≤16777216∧P (.str (xM u ts)))):=id rfl
theorem abP:(adZ u P x)=(Hu u x P):=id rfl
theorem abQ:(ad0 da ρ P u)=(da ρ (adZ u P)):=id rfl
theorem abR:(ajt da ρ P x)=(ajh x (ad0 da ρ P)):=id rfl
theorem aky:(ajc do_ da ρ P)=(do_ ρ (ajt da ρ P)):=id rfl
theorem age:(Hu u (.lst xs) P)=(dJ (mH xs) (ajs u P)):=by
 simp only [Hu,dJ]<;>(cases mH xs<;>rfl)
theorem auR:(inK fl gs PG y)=((gs.length<1000∧PG (abg fl y gs))):=id rfl
theorem agf:(fO fl da ρ gs PG)=(da ρ (inK fl gs PG)):=id rfl
theorem akz:(aA3 i1 ρ PG gs)=(i1 ρ gs PG):=id rfl
theorem abS:(iH i1 i2 ρ gs PG)=(i1 ρ gs (aA3 i2 ρ PG)):=id rfl
theorem abT:(apf (.int a) (.int b) P)=(P (.int (Builtin.bitAnd a b))):=id rfl
theorem auS:(aDY (.int a) (.int b) P)=((0≤b∧P (.int (a / 2 ^ b.toNat)))):=id rfl
theorem auT:(aDX i dz da E ρ)=(da ρ (ajw i dz E ρ)):=by
 show da ρ _=da ρ _
 congr 1;funext y
 unfold ajw iI
 cases ρ[i]? with
 |none=>rfl
 |some s=>
  cases s with
  |ow x=>
   cases x<;>first|rfl|(show dz ρ _=dz ρ _;congr 1;funext z;cases z<;>rfl)
  |_=>rfl
theorem agg:(ajw i dz E ρ y)=(iI i ρ (avX i y dz E ρ)):=id rfl
theorem akA:(avX i y dz E ρ (.lst xs))=(dz ρ (ajv xs i y E ρ)):=id rfl
theorem agh:(ajv xs i y E ρ x)=(zQ x (aju xs i y E ρ)):=id rfl
theorem agi:(aju xs i y E ρ a)=(((0≤a∧a<xs.length)∧iw i (.ow (.lst (xs.set a.toNat y))) ρ E.nx)):=id rfl
theorem agj:(avM f f2 da db dz ρ P)=(da ρ (aA4 f f2 db dz ρ P)):=id rfl
theorem akB:(aA4 f f2 db dz ρ P x)=(db ρ (av0 f f2 x dz ρ P)):=id rfl
theorem akC:(av0 f f2 x dz ρ P y)=(f x y (avZ f2 y dz ρ P)):=id rfl
theorem akD:(avZ f2 y dz ρ P x)=(QJ x (avY f2 y dz ρ P)):=id rfl
theorem akE:(avY f2 y dz ρ P k)=(ifB k (chT f2 y dz ρ P) (cT P false)):=id rfl
theorem auU:(chT f2 y dz ρ P ())=(dz ρ (api f2 y P)):=id rfl
theorem auV:(aDZ n (.bl k) (.bl l) P)=(P (.bl (if n then !decide (k=l) else decide (k=l)))):=id rfl
theorem auW:(V7 n x (.lst xs) P)=(((bu x=true∧fL x≤60)∧(bu (.lst xs)=true∧fL (.lst xs)≤60)∧P (.bl (if n then !(xs.any fun y=>eqD y x) else xs.any fun y=>eqD y x)))):=id rfl
theorem abU:(aq 0 (.bo d::ρ) P)=(P d):=id rfl
theorem auX:(aAG i E ρ)=(iI i ρ (aA5 i E ρ)):=by
 unfold aAG iI
 cases ρ[i]? with
 |none=>rfl
 |some s=>
  cases s with
  |ow x=>cases x<;>rfl
  |_=>rfl
theorem akF:(aA5 i E ρ (.lst xs))=(iw i (.ow (.lst [])) ρ E.nx):=id rfl
theorem agk:(atY E x)=(E.rn x):=id rfl
theorem akG:(atE i E ρ)=(iI i ρ (atY E)):=by
 unfold atE iI
 cases ρ[i]? with
 |none=>rfl
 |some s=>cases s<;>rfl
theorem akH:(aAH da E ρ)=(da ρ E.rn):=id rfl
theorem akI:(aAJ da db E ρ)=(da ρ (ajx db E ρ)):=id rfl
theorem abV:(ajx db E ρ (.lst xs))=(db ρ (ad1 xs E ρ)):=id rfl
theorem abW:(ad1 xs E ρ y)=((xs.length<sizeLine∧E.nx ρ)):=id rfl
theorem akJ:(aAK da E ρ)=(da ρ (atZ E ρ)):=id rfl
theorem agl:(atZ E ρ (.lst xs))=(E.nx ρ):=id rfl
theorem akK:(aAL (.lst xs) (.lst ys) P)=((xs.length+ys.length≤sizeLine∧P (.lst (xs++ys)))):=id rfl
theorem auY:(aD0 da dl dh ρ P)=(da ρ (at4 dl dh ρ P)):=id rfl
theorem agm:(at4 dl dh ρ P x)=(dl ρ (at5 x dh ρ P)):=id rfl
theorem agn:(at5 x dh ρ P lo)=(dh ρ (at6 x lo P)):=id rfl
theorem ago:(at6 x lo P hi)=(Yo lo hi x P):=id rfl
theorem akL:(Yo lo hi (.lst xs) P)=(P (.lst (cut xs lo hi))):=id rfl
theorem Py:QJ (.bl k) PB=PB k:=id rfl
theorem yS{P:Int→Prop}:zQ (.int a) P=P a:=id rfl
theorem yU{P:Tx→Prop}:ajh (.str u) P=P u:=id rfl
theorem vO{α:Type}{z:α}{P:α→Prop}:dJ (some z) P=P z:=id rfl
theorem CW{t f:Unit→Prop}:ifB true t f=t ():=id rfl
theorem yV{t f:Unit→Prop}:ifB false t f=f ():=id rfl
theorem akM:tyD (.bl k)=some "bool":=rfl
theorem agp:tyD (.int a)=some "int":=rfl
theorem agq:tyD (.str u)=some "str":=rfl
theorem agr:tyD (.lst xs)=some "list":=rfl
theorem ags:tyD (.tup xs)=some "tuple":=rfl
theorem agt:tyD .non=some "NoneType":=rfl
theorem agu:abo (.bl k)=some k:=rfl
theorem abX:abo (.int a)=some (a !=0):=rfl
theorem abY:abo (.str u)=some (!u.isEmpty):=rfl
theorem abZ:abo (.lst xs)=some (!xs.isEmpty):=rfl
end
theorem aV{M:rD}{m:Str}{C:Addr}{gs:List (Str×D)}{dr:DA}{ρ:Rh}{P:D→Prop}{S:bK}(h1:gs.lookup m=none)(h2:M C S)(h3:dr ρ (ajr S (.obj C gs) P)):adW M m C gs dr ρ P:=⟨h1,S,h2,h3⟩
theorem jy{k:Bool}{t f:Unit→Prop}(h1:k=true→t ())(h2:k=false→f ()):ifB k t f:=by
 unfold ifB
 cases k with
 |true=>exact h1 rfl
 |false=>exact h2 rfl
theorem cV{p:Prop}[Decidable p]{t f:Unit→Prop}(h1:p→t ())(h2: ¬p→f ()):ifB (decide p) t f:=
 jy (fun h=>h1 (by simpa using h)) fun h=>h2 (by simpa using h)
theorem ab0{p:Prop}[Decidable p]{t f:Unit→Prop}(h1: ¬p→t ())(h2:p→f ()):ifB (!decide p) t f:=
 jy (fun h=>h1 (by simpa using h)) fun h=>h2 (by simpa using h)
theorem bH{dg:DG}{db:DS}{E:DEn}{xs:List D}{ρ:Rh}(Pv:Nat→Rh→Prop)(h0:Pv 0 ρ)(hs: ∀i x ρ,xs[i]? =some x→Pv i ρ→dg x ρ fun ρ'=> ∀(nx:Rh→Prop),(∀r,Pv (i+1) r→nx r)→db { nx:=nx,ct:=nx,bk:=E.nx,rt:=E.rt,rn:=E.rn,rg:=E.rg } ρ')
  (mono: ∀x ρ (A B:Rh→Prop),(∀r,A r→B r)→dg x ρ A→dg x ρ B) (hd: ∀ρ,Pv xs.length ρ→E.nx ρ):wU dg db E xs ρ:=by
 have main: ∀(l:List D) (i:Nat) (ρ:Rh),xs.drop i=l→i+l.length=xs.length→Pv i ρ→wU dg db E l ρ:=by
  intro l
  induction l with
  |nil=>
   intro i ρ e hl p
   unfold wU
   simp at hl
   subst hl
   exact hd ρ p
  |cons x l ih=>
   intro i ρ e hl p
   unfold wU
   have hx:xs[i]? =some x:=by
    have:=congrArg List.head? e
    simpa using this
   have e2:xs.drop (i+1)=l:=by
    have:=congrArg List.tail e
    simpa using this
   refine mono x ρ _ _ (fun r hr=>hr _ fun r' pr=>ih (i+1) r' e2 (by simp at hl;omega) pr) (hs i x ρ hx p)
 exact main xs 0 ρ rfl (by simp) h0
theorem aG{i:Nat}: ∀x ρ (A B:Rh→Prop),(∀r,A r→B r)→dgN i x ρ A→dgN i x ρ B:=fun x ρ A B h q=>h _ q
theorem agv{vs:List Nat}{dg:DG}{dt:DT}{de:DE}{ρ:Rh}(f:D→D): ∀{xs:List D} {P:List D→Prop},(∀x∈xs, ∀Q:D→Prop,Q (f x)→dg x (eZ ρ vs) fun ρ'=>dt ρ' fun b=>b=true∧de ρ' Q)→
  (∀x ρ (A B:Rh→Prop),(∀r,A r→B r)→dg x ρ A→dg x ρ B)→(∀ρ (A B:Bool→Prop),(∀r,A r→B r)→dt ρ A→dt ρ B)→P (xs.map f)→lcD vs dg dt de ρ xs P
 |[],P,_,_,_,h=>h
 |x::xs,P,hs,m1,m2,h=>by
  unfold lcD
  refine m1 x _ _ _ (fun r hr=>m2 r _ _ (fun b ⟨hb,q⟩=> ?_) hr) (hs x (by simp) (fun y=>lcD vs dg dt de ρ xs fun ys=>P (y::ys)) (agv f (fun y hy=>hs y (by simp [hy])) m1 m2 h))
  rw [if_pos hb]
  exact q
theorem bU: ∀ρ (A B:Bool→Prop),(∀r,A r→B r)→kZ ρ A→kZ ρ B:=fun ρ A B h q=>h _ q
end DL
end
section
namespace DL
open PySem L2
variable[bG]
theorem QK{α:Type}(z:List α){a:Int}(h:0≤a):cut z (some a) none=z.drop a.toNat:=by
 unfold cut
 simp only [HT.sIx,if_neg (show ¬a<0 by omega)]
 rw [List.take_of_length_le (by rw [List.length_drop];omega)]
 by_cases g:a.toNat≤z.length
 ·rw [Nat.min_eq_left g]
 ·rw [Nat.min_eq_right (by omega),List.drop_length,List.drop_eq_nil_of_le (by omega)]
theorem ad2{α:Type}(z:List α){b:Int}(h:0≤b):cut z none (some b)=z.take b.toNat:=by
 unfold cut
 simp only [HT.sIx,if_neg (show ¬b<0 by omega),List.drop_zero,Nat.sub_zero]
 by_cases g:b.toNat≤z.length
 ·rw [Nat.min_eq_left g]
 ·rw [Nat.min_eq_right (by omega),List.take_length,List.take_of_length_le (by omega)]
theorem akN{α:Type}(z:List α){a b:Int}(h:0≤a)(g:0≤b):cut z (some a) (some b)=(z.take b.toNat).drop a.toNat:=by
 unfold cut
 simp only [HT.sIx,if_neg (show ¬a<0 by omega),if_neg (show ¬b<0 by omega)]
 rw [List.drop_take]
 by_cases ga:a.toNat≤z.length
 ·rw [Nat.min_eq_left ga]
  by_cases gb:b.toNat≤z.length
  ·rw [Nat.min_eq_left gb]
  ·rw [Nat.min_eq_right (by omega),List.take_of_length_le (by rw [List.length_drop];omega),List.take_of_length_le (by rw [List.length_drop];omega)]
 ·rw [Nat.min_eq_right (show z.length≤a.toNat by omega),List.drop_length,List.drop_eq_nil_of_le (show z.length≤a.toNat by omega)]
  simp
theorem tD{α:Type}(z:List α){a:Int}(h:0≤a):ixD z a=z[a.toNat]? :=by
 unfold ixD;rw [if_pos h]
theorem dO{α:Type}(z:List α)(a:Nat):ixD z (a:Int)=z[a]? :=by
 rw [tD z (by omega)];simp
theorem rG{α:Type}{z:List α}{a:Int}(h:0≤a)(g:a<z.length):ixD z a=some (z[a.toNat]'(by omega)):=by
 rw [tD z h];simp [show a.toNat<z.length by omega]
theorem szl:sizeLine=16777216:=sizeLine_eq
theorem Ml(t:Tx):xM [] (t.map fun c=>[c])=t:=by
 induction t with
 |nil=>rfl
 |cons c t ih=>
  cases t with
  |nil=>rfl
  |cons d r=>
   show [c]++([]++TL.joinL [] ((d::r).map fun c=>[c]))=_
   unfold xM at ih
   rw [ih];rfl
theorem akO(t:Tx):((t.map fun c=>[c]).map (fun x:Tx=>x.length)).sum=t.length:=by
 induction t with
 |nil=>rfl
 |cons c t ih=>simp only [List.map_cons,List.sum_cons,ih,List.length_cons,List.length_nil];omega
theorem ab1{dg:DG}{db:DS}{E:DEn}(t:D→Bool)(Pv:Rh→Prop)(v:D)(mono: ∀x ρ (A B:Rh→Prop),(∀r,A r→B r)→dg x ρ A→dg x ρ B): ∀{xs:List D} {ρ:Rh},Pv ρ→
  (∀x∈xs, ∀ρ,Pv ρ→dg x ρ fun ρ'=> ∀nx:Rh→Prop,(t x=true→ ∀r,Pv r→nx r)→(t x=false→E.rt v)→db { nx:=nx,ct:=nx,bk:=E.nx,rt:=E.rt,rn:=E.rn,rg:=E.rg } ρ')→
  (xs.all t=true→ ∀ρ,Pv ρ→E.nx ρ)→(xs.all t=false→E.rt v)→wU dg db E xs ρ
 |[],ρ,p,_,h1,_=>h1 rfl ρ p
 |x::xs,ρ,p,hs,h1,h2=>by
  unfold wU
  refine mono x ρ _ _ (fun r hr=>hr _ (fun tx r' pr=> ?_) fun tx=>h2 (by rw [List.all_cons,tx];rfl)) (hs x (by simp) ρ p)
  exact ab1 t Pv v mono pr (fun y hy=>hs y (by simp [hy])) (fun a=>h1 (by rw [List.all_cons,tx,a];rfl)) fun a=>h2 (by rw [List.all_cons,tx,a];rfl)
theorem e_{n:Nat}{g:DGs}(h: ∀xs ρ (A B:Rh→Prop),(∀r,A r→B r)→g xs ρ A→g xs ρ B): ∀x ρ (A B:Rh→Prop),(∀r,A r→B r)→dgT n g x ρ A→dgT n g x ρ B:=fun x ρ A B k q=>by
 unfold dgT at q ⊢
 cases x<;>first|exact q|exact ⟨q.1,h _ ρ A B k q.2⟩
theorem du: ∀xs ρ (A B:Rh→Prop),(∀r,A r→B r)→iJ xs ρ A→iJ xs ρ B:=fun xs ρ A B k q=>by
 unfold iJ at q ⊢
 cases xs with
 |nil=>exact k _ q
 |cons=>exact q
theorem aM{d:DG}{g:DGs}(h1: ∀x ρ (A B:Rh→Prop),(∀r,A r→B r)→d x ρ A→d x ρ B)(h: ∀xs ρ (A B:Rh→Prop),(∀r,A r→B r)→g xs ρ A→g xs ρ B): ∀xs ρ (A B:Rh→Prop),(∀r,A r→B r)→bz d g xs ρ A→bz d g xs ρ B:=fun xs ρ A B k q=>by
 unfold bz at q ⊢
 cases xs with
 |nil=>exact q
 |cons x r=>exact h1 x ρ _ _ (fun ρ' z=>h r ρ' A B k z) q
theorem jA{lo:Int}{n i:Nat}{x:D}(h:(oX lo n)[i]? =some x):x= .int (lo+i)∧i<n:=by
 have hi:i<n:=by
  have:=(List.getElem?_eq_some_iff.mp h).1
  simpa [oX] using this
 refine ⟨?_,hi⟩
 simp only [oX,List.getElem?_map,List.getElem?_range hi,Option.map_some,Option.some.injEq] at h
 exact h.symm
theorem dM(lo:Int)(n:Nat):(oX lo n).length=n:=by simp [oX]
theorem ahI{z:Tx}{x:D}(h:x∈eO z): ∃c∈z,x= .str [c]:=by
 simp only [eO,List.mem_map] at h
 obtain ⟨c,h1,h2⟩:=h
 exact ⟨c,h1,h2.symm⟩
theorem QL{c:DT}{body:DS}{E:DEn}(Pv:Nat→Rh→Prop)
  (hs: ∀m ρ,Pv m ρ→ ∀T:Rh→Prop,(∀k,k<m→ ∀r,Pv k r→T r)→c ρ fun b=>ifB b (stT body { nx:=T,ct:=T,bk:=E.nx,rt:=E.rt,rn:=E.rn,rg:=E.rg } ρ) (fun _=>E.nx ρ)):
  ∀N m ρ,m≤N→Pv m ρ→xH c body E (N+1) ρ
 | 0,m,ρ,h,p=>hs m ρ p _ fun k hk r pr=>absurd hk (by omega)
 |N+1,m,ρ,h,p=>hs m ρ p (xH c body E (N+1)) fun k hk r pr=>QL Pv hs N k r (by omega) pr
theorem ahJ{c:DT}{body:DS}{E:DEn}{ρ:Rh}(Pv:Nat→Rh→Prop)(m:Nat)(p:Pv m ρ)
  (hs: ∀m ρ,Pv m ρ→ ∀T:Rh→Prop,(∀k,k<m→ ∀r,Pv k r→T r)→c ρ fun b=>ifB b (stT body { nx:=T,ct:=T,bk:=E.nx,rt:=E.rt,rn:=E.rn,rg:=E.rg } ρ) (fun _=>E.nx ρ)):
  adS c body E ρ:=⟨m+1,QL Pv hs m m ρ (Nat.le_refl _) p⟩
theorem QM{vs:List Nat}{dg:DG}{dt:DT}{de:DE}{ρ:Rh}(t:D→Bool)(f:D→D): ∀{xs:List D} {P:List D→Prop},(∀x∈xs, ∀(Y:D→Prop) (N:Prop),(t x=true→Y (f x))→(t x=false→N)→dg x (eZ ρ vs) fun ρ'=>dt ρ' fun b=>ifB b (veT de ρ' Y) (fun _=>N))→
  P ((xs.filter t).map f)→lcD vs dg dt de ρ xs P
 |[],P,_,h=>h
 |x::xs,P,hs,h=>by
  unfold lcD
  have ih: ∀P:List D→Prop,P ((xs.filter t).map f)→lcD vs dg dt de ρ xs P:=fun P h=>QM t f (fun y hy=>hs y (by simp [hy])) h
  refine hs x (by simp) (fun y=>lcD vs dg dt de ρ xs fun ys=>P (y::ys)) _ (fun g=>ih _ ?_) fun g=>ih _ ?_
  ·rw [List.filter_cons_of_pos g] at h
   exact h
  ·rw [List.filter_cons_of_neg (by simp [g])] at h
   exact h
theorem Yp{dg:DG}{db:DS}{E:DEn}(t:D→Bool)(v:D→D)(Pv:Rh→Prop)(mono: ∀x ρ (A B:Rh→Prop),(∀r,A r→B r)→dg x ρ A→dg x ρ B): ∀{xs:List D} {ρ:Rh},Pv ρ→
  (∀x∈xs, ∀ρ,Pv ρ→dg x ρ fun ρ'=> ∀nx:Rh→Prop,(t x=false→ ∀r,Pv r→nx r)→(t x=true→E.rt (v x))→db { nx:=nx,ct:=nx,bk:=E.nx,rt:=E.rt,rn:=E.rn,rg:=E.rg } ρ')→
  (xs.find? t=none→ ∀ρ,Pv ρ→E.nx ρ)→(∀x,xs.find? t=some x→E.rt (v x))→wU dg db E xs ρ
 |[],ρ,p,_,h1,_=>h1 rfl ρ p
 |x::xs,ρ,p,hs,h1,h2=>by
  unfold wU
  refine mono x ρ _ _ (fun r hr=>hr _ (fun tx r' pr=> ?_) fun tx=>h2 x (by rw [List.find?_cons,tx])) (hs x (by simp) ρ p)
  exact Yp t v Pv mono pr (fun y hy=>hs y (by simp [hy])) (fun a=>h1 (by rw [List.find?_cons,tx];exact a)) fun y a=>h2 y (by rw [List.find?_cons,tx];exact a)
end DL
end
section
namespace DL
open PySem L2
variable[bG]
theorem V8:(("begin":Str)=="kept")=false:=by decide+kernel
theorem V9:(("begin":Str)="kept")=False:=eq_false (by decide+kernel)
theorem V_:(("begin":Str)=="most")=false:=by decide+kernel
theorem Wb:(("begin":Str)="most")=False:=eq_false (by decide+kernel)
theorem QQ:(("begin":Str)=="rules")=false:=by decide+kernel
theorem QR:(("begin":Str)="rules")=False:=eq_false (by decide+kernel)
theorem Hv:(("carried":Str)=="level")=false:=by decide+kernel
theorem Hw:(("carried":Str)="level")=False:=eq_false (by decide+kernel)
theorem wC:(("carried":Str)=="most")=false:=by decide+kernel
theorem Mp:(("carried":Str)="most")=False:=eq_false (by decide+kernel)
theorem wF:(("carried":Str)=="name")=false:=by decide+kernel
theorem Mq:(("carried":Str)="name")=False:=eq_false (by decide+kernel)
theorem Mr:(("carried":Str)=="past")=false:=by decide+kernel
theorem Ms:(("carried":Str)="past")=False:=eq_false (by decide+kernel)
theorem tE:(("carried":Str)=="skills")=false:=by decide+kernel
theorem CZ:(("carried":Str)="skills")=False:=eq_false (by decide+kernel)
theorem C_:(("carried":Str)=="weight")=false:=by decide+kernel
theorem Dc:(("carried":Str)="weight")=False:=eq_false (by decide+kernel)
theorem Dd:(("carried":Str)=="wishes")=false:=by decide+kernel
theorem De:(("carried":Str)="wishes")=False:=eq_false (by decide+kernel)
theorem Wc:(("days":Str)=="kinds")=false:=by decide+kernel
theorem Wd:(("days":Str)="kinds")=False:=eq_false (by decide+kernel)
theorem We:(("days":Str)=="leave")=false:=by decide+kernel
theorem Wf:(("days":Str)="leave")=False:=eq_false (by decide+kernel)
theorem Wg:(("days":Str)=="needs")=false:=by decide+kernel
theorem Wh:(("days":Str)="needs")=False:=eq_false (by decide+kernel)
theorem Wi:(("days":Str)=="pairs")=false:=by decide+kernel
theorem Wj:(("days":Str)="pairs")=False:=eq_false (by decide+kernel)
theorem Mu:(("days":Str)=="persons")=false:=by decide+kernel
theorem Mv:(("days":Str)="persons")=False:=eq_false (by decide+kernel)
theorem Wk:(("days":Str)=="rules")=false:=by decide+kernel
theorem Wl:(("days":Str)="rules")=False:=eq_false (by decide+kernel)
theorem QS:(("days":Str)=="wishes")=false:=by decide+kernel
theorem QT:(("days":Str)="wishes")=False:=eq_false (by decide+kernel)
theorem Wm:(("kept":Str)=="begin")=false:=by decide+kernel
theorem Wn:(("kept":Str)="begin")=False:=eq_false (by decide+kernel)
theorem ZD:(("kept":Str)=="most")=false:=by decide+kernel
theorem ZF:(("kept":Str)="most")=False:=eq_false (by decide+kernel)
theorem Wo:(("kept":Str)=="rules")=false:=by decide+kernel
theorem Wq:(("kept":Str)="rules")=False:=eq_false (by decide+kernel)
theorem Wr:(("kinds":Str)=="days")=false:=by decide+kernel
theorem Ws:(("kinds":Str)="days")=False:=eq_false (by decide+kernel)
theorem QV:(("kinds":Str)=="leave")=false:=by decide+kernel
theorem QW:(("kinds":Str)="leave")=False:=eq_false (by decide+kernel)
theorem QX:(("kinds":Str)=="needs")=false:=by decide+kernel
theorem QZ:(("kinds":Str)="needs")=False:=eq_false (by decide+kernel)
theorem Q3:(("kinds":Str)=="pairs")=false:=by decide+kernel
theorem Q4:(("kinds":Str)="pairs")=False:=eq_false (by decide+kernel)
theorem Hz:(("kinds":Str)=="persons")=false:=by decide+kernel
theorem HD:(("kinds":Str)="persons")=False:=eq_false (by decide+kernel)
theorem Q5:(("kinds":Str)=="rules")=false:=by decide+kernel
theorem Q6:(("kinds":Str)="rules")=False:=eq_false (by decide+kernel)
theorem Mw:(("kinds":Str)=="wishes")=false:=by decide+kernel
theorem Mx:(("kinds":Str)="wishes")=False:=eq_false (by decide+kernel)
theorem Wt:(("leave":Str)=="days")=false:=by decide+kernel
theorem Wu:(("leave":Str)="days")=False:=eq_false (by decide+kernel)
theorem Q7:(("leave":Str)=="kinds")=false:=by decide+kernel
theorem Q8:(("leave":Str)="kinds")=False:=eq_false (by decide+kernel)
theorem Q9:(("leave":Str)=="needs")=false:=by decide+kernel
theorem Q_:(("leave":Str)="needs")=False:=eq_false (by decide+kernel)
theorem Ra:(("leave":Str)=="pairs")=false:=by decide+kernel
theorem Rb:(("leave":Str)="pairs")=False:=eq_false (by decide+kernel)
theorem HF:(("leave":Str)=="persons")=false:=by decide+kernel
theorem HH:(("leave":Str)="persons")=False:=eq_false (by decide+kernel)
theorem Rc:(("leave":Str)=="rules")=false:=by decide+kernel
theorem Rf:(("leave":Str)="rules")=False:=eq_false (by decide+kernel)
theorem Mz:(("leave":Str)=="wishes")=false:=by decide+kernel
theorem MF:(("leave":Str)="wishes")=False:=eq_false (by decide+kernel)
theorem HJ:(("level":Str)=="carried")=false:=by decide+kernel
theorem HQ:(("level":Str)="carried")=False:=eq_false (by decide+kernel)
theorem Wv:(("most":Str)=="begin")=false:=by decide+kernel
theorem Ww:(("most":Str)="begin")=False:=eq_false (by decide+kernel)
theorem MJ:(("most":Str)=="carried")=false:=by decide+kernel
theorem MK:(("most":Str)="carried")=False:=eq_false (by decide+kernel)
theorem ZG:(("most":Str)=="kept")=false:=by decide+kernel
theorem ZJ:(("most":Str)="kept")=False:=eq_false (by decide+kernel)
theorem ZK:(("most":Str)=="name")=false:=by decide+kernel
theorem ZL:(("most":Str)="name")=False:=eq_false (by decide+kernel)
theorem ZM:(("most":Str)=="past")=false:=by decide+kernel
theorem ZP:(("most":Str)="past")=False:=eq_false (by decide+kernel)
theorem Wx:(("most":Str)=="rules")=false:=by decide+kernel
theorem Wy:(("most":Str)="rules")=False:=eq_false (by decide+kernel)
theorem Rg:(("most":Str)=="skills")=false:=by decide+kernel
theorem Ri:(("most":Str)="skills")=False:=eq_false (by decide+kernel)
theorem MN:(("name":Str)=="carried")=false:=by decide+kernel
theorem MP:(("name":Str)="carried")=False:=eq_false (by decide+kernel)
theorem ZQ:(("name":Str)=="most")=false:=by decide+kernel
theorem ZR:(("name":Str)="most")=False:=eq_false (by decide+kernel)
theorem ZS:(("name":Str)=="past")=false:=by decide+kernel
theorem ZV:(("name":Str)="past")=False:=eq_false (by decide+kernel)
theorem Rj:(("name":Str)=="skills")=false:=by decide+kernel
theorem Rk:(("name":Str)="skills")=False:=eq_false (by decide+kernel)
theorem Wz:(("needs":Str)=="days")=false:=by decide+kernel
theorem WD:(("needs":Str)="days")=False:=eq_false (by decide+kernel)
theorem Rm:(("needs":Str)=="kinds")=false:=by decide+kernel
theorem Ro:(("needs":Str)="kinds")=False:=eq_false (by decide+kernel)
theorem Rp:(("needs":Str)=="leave")=false:=by decide+kernel
theorem Rq:(("needs":Str)="leave")=False:=eq_false (by decide+kernel)
theorem Rr:(("needs":Str)=="pairs")=false:=by decide+kernel
theorem Ru:(("needs":Str)="pairs")=False:=eq_false (by decide+kernel)
theorem HR:(("needs":Str)=="persons")=false:=by decide+kernel
theorem HS:(("needs":Str)="persons")=False:=eq_false (by decide+kernel)
theorem Rv:(("needs":Str)=="rules")=false:=by decide+kernel
theorem Rx:(("needs":Str)="rules")=False:=eq_false (by decide+kernel)
theorem MT:(("needs":Str)=="wishes")=false:=by decide+kernel
theorem M3:(("needs":Str)="wishes")=False:=eq_false (by decide+kernel)
theorem WF:(("pairs":Str)=="days")=false:=by decide+kernel
theorem WK:(("pairs":Str)="days")=False:=eq_false (by decide+kernel)
theorem Ry:(("pairs":Str)=="kinds")=false:=by decide+kernel
theorem Rz:(("pairs":Str)="kinds")=False:=eq_false (by decide+kernel)
theorem RB:(("pairs":Str)=="leave")=false:=by decide+kernel
theorem RD:(("pairs":Str)="leave")=False:=eq_false (by decide+kernel)
theorem RG:(("pairs":Str)=="needs")=false:=by decide+kernel
theorem RJ:(("pairs":Str)="needs")=False:=eq_false (by decide+kernel)
theorem HW:(("pairs":Str)=="persons")=false:=by decide+kernel
theorem HX:(("pairs":Str)="persons")=False:=eq_false (by decide+kernel)
theorem RK:(("pairs":Str)=="rules")=false:=by decide+kernel
theorem RL:(("pairs":Str)="rules")=False:=eq_false (by decide+kernel)
theorem M4:(("pairs":Str)=="wishes")=false:=by decide+kernel
theorem M5:(("pairs":Str)="wishes")=False:=eq_false (by decide+kernel)
theorem WL:(("paper":Str)=="rota")=false:=by decide+kernel
theorem WM:(("paper":Str)="rota")=False:=eq_false (by decide+kernel)
theorem RM:(("paper":Str)=="total")=false:=by decide+kernel
theorem RN:(("paper":Str)="total")=False:=eq_false (by decide+kernel)
theorem M6:(("past":Str)=="carried")=false:=by decide+kernel
theorem M7:(("past":Str)="carried")=False:=eq_false (by decide+kernel)
theorem ZW:(("past":Str)=="most")=false:=by decide+kernel
theorem ZX:(("past":Str)="most")=False:=eq_false (by decide+kernel)
theorem ZZ:(("past":Str)=="name")=false:=by decide+kernel
theorem Z0:(("past":Str)="name")=False:=eq_false (by decide+kernel)
theorem RP:(("past":Str)=="skills")=false:=by decide+kernel
theorem RQ:(("past":Str)="skills")=False:=eq_false (by decide+kernel)
theorem M8:(("persons":Str)=="days")=false:=by decide+kernel
theorem M9:(("persons":Str)="days")=False:=eq_false (by decide+kernel)
theorem HY:(("persons":Str)=="kinds")=false:=by decide+kernel
theorem H_:(("persons":Str)="kinds")=False:=eq_false (by decide+kernel)
theorem Ib:(("persons":Str)=="leave")=false:=by decide+kernel
theorem Ie:(("persons":Str)="leave")=False:=eq_false (by decide+kernel)
theorem Ig:(("persons":Str)=="needs")=false:=by decide+kernel
theorem Ih:(("persons":Str)="needs")=False:=eq_false (by decide+kernel)
theorem Ii:(("persons":Str)=="pairs")=false:=by decide+kernel
theorem Ij:(("persons":Str)="pairs")=False:=eq_false (by decide+kernel)
theorem Ik:(("persons":Str)=="rules")=false:=by decide+kernel
theorem Il:(("persons":Str)="rules")=False:=eq_false (by decide+kernel)
theorem Df:(("persons":Str)=="wishes")=false:=by decide+kernel
theorem Dg:(("persons":Str)="wishes")=False:=eq_false (by decide+kernel)
theorem WN:(("rota":Str)=="paper")=false:=by decide+kernel
theorem WP:(("rota":Str)="paper")=False:=eq_false (by decide+kernel)
theorem WQ:(("rota":Str)=="total")=false:=by decide+kernel
theorem WR:(("rota":Str)="total")=False:=eq_false (by decide+kernel)
theorem RW:(("rules":Str)=="begin")=false:=by decide+kernel
theorem RX:(("rules":Str)="begin")=False:=eq_false (by decide+kernel)
theorem WT:(("rules":Str)=="days")=false:=by decide+kernel
theorem WW:(("rules":Str)="days")=False:=eq_false (by decide+kernel)
theorem WY:(("rules":Str)=="kept")=false:=by decide+kernel
theorem W0:(("rules":Str)="kept")=False:=eq_false (by decide+kernel)
theorem R6:(("rules":Str)=="kinds")=false:=by decide+kernel
theorem R7:(("rules":Str)="kinds")=False:=eq_false (by decide+kernel)
theorem R8:(("rules":Str)=="leave")=false:=by decide+kernel
theorem R9:(("rules":Str)="leave")=False:=eq_false (by decide+kernel)
theorem W3:(("rules":Str)=="most")=false:=by decide+kernel
theorem W4:(("rules":Str)="most")=False:=eq_false (by decide+kernel)
theorem R_:(("rules":Str)=="needs")=false:=by decide+kernel
theorem Sd:(("rules":Str)="needs")=False:=eq_false (by decide+kernel)
theorem Sh:(("rules":Str)=="pairs")=false:=by decide+kernel
theorem Sq:(("rules":Str)="pairs")=False:=eq_false (by decide+kernel)
theorem Im:(("rules":Str)=="persons")=false:=by decide+kernel
theorem Io:(("rules":Str)="persons")=False:=eq_false (by decide+kernel)
theorem M_:(("rules":Str)=="wishes")=false:=by decide+kernel
theorem Nb:(("rules":Str)="wishes")=False:=eq_false (by decide+kernel)
theorem Dh:(("skills":Str)=="carried")=false:=by decide+kernel
theorem Di:(("skills":Str)="carried")=False:=eq_false (by decide+kernel)
theorem Ss:(("skills":Str)=="most")=false:=by decide+kernel
theorem Su:(("skills":Str)="most")=False:=eq_false (by decide+kernel)
theorem Sv:(("skills":Str)=="name")=false:=by decide+kernel
theorem Sw:(("skills":Str)="name")=False:=eq_false (by decide+kernel)
theorem Sy:(("skills":Str)=="past")=false:=by decide+kernel
theorem SJ:(("skills":Str)="past")=False:=eq_false (by decide+kernel)
theorem SM:(("total":Str)=="paper")=false:=by decide+kernel
theorem SN:(("total":Str)="paper")=False:=eq_false (by decide+kernel)
theorem W6:(("total":Str)=="rota")=false:=by decide+kernel
theorem W7:(("total":Str)="rota")=False:=eq_false (by decide+kernel)
theorem Dj:(("weight":Str)=="carried")=false:=by decide+kernel
theorem Dk:(("weight":Str)="carried")=False:=eq_false (by decide+kernel)
theorem Ip:(("weight":Str)=="wishes")=false:=by decide+kernel
theorem Ir:(("weight":Str)="wishes")=False:=eq_false (by decide+kernel)
theorem Dm:(("wishes":Str)=="carried")=false:=by decide+kernel
theorem Do:(("wishes":Str)="carried")=False:=eq_false (by decide+kernel)
theorem SQ:(("wishes":Str)=="days")=false:=by decide+kernel
theorem S7:(("wishes":Str)="days")=False:=eq_false (by decide+kernel)
theorem Nf:(("wishes":Str)=="kinds")=false:=by decide+kernel
theorem Nh:(("wishes":Str)="kinds")=False:=eq_false (by decide+kernel)
theorem Nk:(("wishes":Str)=="leave")=false:=by decide+kernel
theorem Nm:(("wishes":Str)="leave")=False:=eq_false (by decide+kernel)
theorem Np:(("wishes":Str)=="needs")=false:=by decide+kernel
theorem Nq:(("wishes":Str)="needs")=False:=eq_false (by decide+kernel)
theorem Nr:(("wishes":Str)=="pairs")=false:=by decide+kernel
theorem Nt:(("wishes":Str)="pairs")=False:=eq_false (by decide+kernel)
theorem Dq:(("wishes":Str)=="persons")=false:=by decide+kernel
theorem Dr:(("wishes":Str)="persons")=False:=eq_false (by decide+kernel)
theorem Nu:(("wishes":Str)=="rules")=false:=by decide+kernel
theorem Nv:(("wishes":Str)="rules")=False:=eq_false (by decide+kernel)
theorem Iu:(("wishes":Str)=="weight")=false:=by decide+kernel
theorem Iv:(("wishes":Str)="weight")=False:=eq_false (by decide+kernel)
theorem Z3:(("bad":Str)=="begin")=false:=by decide+kernel
theorem S8:(("bad":Str)=="carried")=false:=by decide+kernel
theorem ab2:(("bad":Str)=="days")=false:=by decide+kernel
theorem ab3:(("bad":Str)=="kept")=false:=by decide+kernel
theorem Z4:(("bad":Str)=="kinds")=false:=by decide+kernel
theorem Z5:(("bad":Str)=="leave")=false:=by decide+kernel
theorem Z6:(("bad":Str)=="level")=false:=by decide+kernel
theorem ab4:(("bad":Str)=="most")=false:=by decide+kernel
theorem ab5:(("bad":Str)=="name")=false:=by decide+kernel
theorem Z7:(("bad":Str)=="needs")=false:=by decide+kernel
theorem Z8:(("bad":Str)=="pages")=false:=by decide+kernel
theorem Z9:(("bad":Str)=="pairs")=false:=by decide+kernel
theorem Z_:(("bad":Str)=="paper")=false:=by decide+kernel
theorem ab6:(("bad":Str)=="past")=false:=by decide+kernel
theorem S9:(("bad":Str)=="persons")=false:=by decide+kernel
theorem ab7:(("bad":Str)=="rota")=false:=by decide+kernel
theorem aaa:(("bad":Str)=="rules")=false:=by decide+kernel
theorem W8:(("bad":Str)=="skills")=false:=by decide+kernel
theorem aab:(("bad":Str)=="total")=false:=by decide+kernel
theorem W9:(("bad":Str)=="weight")=false:=by decide+kernel
theorem W_:(("bad":Str)=="wishes")=false:=by decide+kernel
theorem KZ:(("bad":Str)=="word")=false:=by decide+kernel
theorem S_:(("reach":Str)=="begin")=false:=by decide+kernel
theorem Iw:(("reach":Str)=="carried")=false:=by decide+kernel
theorem Xa:(("reach":Str)=="days")=false:=by decide+kernel
theorem Xb:(("reach":Str)=="kept")=false:=by decide+kernel
theorem Tc:(("reach":Str)=="kinds")=false:=by decide+kernel
theorem Td:(("reach":Str)=="leave")=false:=by decide+kernel
theorem Tf:(("reach":Str)=="level")=false:=by decide+kernel
theorem Xd:(("reach":Str)=="most")=false:=by decide+kernel
theorem Xe:(("reach":Str)=="name")=false:=by decide+kernel
theorem Tg:(("reach":Str)=="needs")=false:=by decide+kernel
theorem Th:(("reach":Str)=="pages")=false:=by decide+kernel
theorem Tj:(("reach":Str)=="pairs")=false:=by decide+kernel
theorem Tn:(("reach":Str)=="paper")=false:=by decide+kernel
theorem Xf:(("reach":Str)=="past")=false:=by decide+kernel
theorem Iz:(("reach":Str)=="persons")=false:=by decide+kernel
theorem Xg:(("reach":Str)=="rota")=false:=by decide+kernel
theorem Tp:(("reach":Str)=="rules")=false:=by decide+kernel
theorem Ny:(("reach":Str)=="skills")=false:=by decide+kernel
theorem Tq:(("reach":Str)=="total")=false:=by decide+kernel
theorem Nz:(("reach":Str)=="weight")=false:=by decide+kernel
theorem NK:(("reach":Str)=="wishes")=false:=by decide+kernel
theorem zR:(("reach":Str)=="word")=false:=by decide+kernel
theorem Xh:(("need":Str)=="begin")=false:=by decide+kernel
theorem NP:(("need":Str)=="carried")=false:=by decide+kernel
theorem vP:(("need":Str)=="days")=false:=by decide+kernel
theorem aac:(("need":Str)=="kept")=false:=by decide+kernel
theorem uf:(("need":Str)=="kinds")=false:=by decide+kernel
theorem ug:(("need":Str)=="leave")=false:=by decide+kernel
theorem Xi:(("need":Str)=="level")=false:=by decide+kernel
theorem aad:(("need":Str)=="most")=false:=by decide+kernel
theorem aae:(("need":Str)=="name")=false:=by decide+kernel
theorem uh:(("need":Str)=="needs")=false:=by decide+kernel
theorem Xj:(("need":Str)=="pages")=false:=by decide+kernel
theorem ul:(("need":Str)=="pairs")=false:=by decide+kernel
theorem Xk:(("need":Str)=="paper")=false:=by decide+kernel
theorem aaf:(("need":Str)=="past")=false:=by decide+kernel
theorem qm:(("need":Str)=="persons")=false:=by decide+kernel
theorem aag:(("need":Str)=="rota")=false:=by decide+kernel
theorem uo:(("need":Str)=="rules")=false:=by decide+kernel
theorem Tt:(("need":Str)=="skills")=false:=by decide+kernel
theorem Xl:(("need":Str)=="total")=false:=by decide+kernel
theorem Tu:(("need":Str)=="weight")=false:=by decide+kernel
theorem rH:(("need":Str)=="wishes")=false:=by decide+kernel
theorem aah:(("need":Str)=="word")=false:=by decide+kernel
theorem aai:(("may":Str)=="begin")=false:=by decide+kernel
theorem Tv:(("may":Str)=="carried")=false:=by decide+kernel
theorem ab8:(("may":Str)=="days")=false:=by decide+kernel
theorem ab9:(("may":Str)=="kept")=false:=by decide+kernel
theorem aaj:(("may":Str)=="kinds")=false:=by decide+kernel
theorem aak:(("may":Str)=="leave")=false:=by decide+kernel
theorem aal:(("may":Str)=="level")=false:=by decide+kernel
theorem ab_:(("may":Str)=="most")=false:=by decide+kernel
theorem aca:(("may":Str)=="name")=false:=by decide+kernel
theorem aam:(("may":Str)=="needs")=false:=by decide+kernel
theorem aan:(("may":Str)=="pages")=false:=by decide+kernel
theorem aao:(("may":Str)=="pairs")=false:=by decide+kernel
theorem aap:(("may":Str)=="paper")=false:=by decide+kernel
theorem acb:(("may":Str)=="past")=false:=by decide+kernel
theorem Tw:(("may":Str)=="persons")=false:=by decide+kernel
theorem acd:(("may":Str)=="rota")=false:=by decide+kernel
theorem aaq:(("may":Str)=="rules")=false:=by decide+kernel
theorem Xm:(("may":Str)=="skills")=false:=by decide+kernel
theorem aar:(("may":Str)=="total")=false:=by decide+kernel
theorem Xn:(("may":Str)=="weight")=false:=by decide+kernel
theorem Xo:(("may":Str)=="wishes")=false:=by decide+kernel
theorem ace:(("may":Str)=="word")=false:=by decide+kernel
theorem Ds:(("place_of":Str)=="begin")=false:=by decide+kernel
theorem zm:(("place_of":Str)=="carried")=false:=by decide+kernel
theorem oZ:(("place_of":Str)=="days")=false:=by decide+kernel
theorem IK:(("place_of":Str)=="kept")=false:=by decide+kernel
theorem ni:(("place_of":Str)=="kinds")=false:=by decide+kernel
theorem nq:(("place_of":Str)=="leave")=false:=by decide+kernel
theorem Dt:(("place_of":Str)=="level")=false:=by decide+kernel
theorem IV:(("place_of":Str)=="most")=false:=by decide+kernel
theorem IW:(("place_of":Str)=="name")=false:=by decide+kernel
theorem nu:(("place_of":Str)=="needs")=false:=by decide+kernel
theorem Du:(("place_of":Str)=="pages")=false:=by decide+kernel
theorem nD:(("place_of":Str)=="pairs")=false:=by decide+kernel
theorem Dy:(("place_of":Str)=="paper")=false:=by decide+kernel
theorem I_:(("place_of":Str)=="past")=false:=by decide+kernel
theorem lF:(("place_of":Str)=="persons")=false:=by decide+kernel
theorem Ja:(("place_of":Str)=="rota")=false:=by decide+kernel
theorem nJ:(("place_of":Str)=="rules")=false:=by decide+kernel
theorem Az:(("place_of":Str)=="skills")=false:=by decide+kernel
theorem Dz:(("place_of":Str)=="total")=false:=by decide+kernel
theorem A_:(("place_of":Str)=="weight")=false:=by decide+kernel
theorem mD:(("place_of":Str)=="wishes")=false:=by decide+kernel
theorem Jb:(("place_of":Str)=="word")=false:=by decide+kernel
theorem Ba:(("rules_for":Str)=="begin")=false:=by decide+kernel
theorem xN:(("rules_for":Str)=="carried")=false:=by decide+kernel
theorem tG:(("rules_for":Str)=="days")=false:=by decide+kernel
theorem DN:(("rules_for":Str)=="kept")=false:=by decide+kernel
theorem rJ:(("rules_for":Str)=="kinds")=false:=by decide+kernel
theorem rK:(("rules_for":Str)=="leave")=false:=by decide+kernel
theorem Bb:(("rules_for":Str)=="level")=false:=by decide+kernel
theorem DQ:(("rules_for":Str)=="most")=false:=by decide+kernel
theorem DR:(("rules_for":Str)=="name")=false:=by decide+kernel
theorem rM:(("rules_for":Str)=="needs")=false:=by decide+kernel
theorem Bc:(("rules_for":Str)=="pages")=false:=by decide+kernel
theorem rN:(("rules_for":Str)=="pairs")=false:=by decide+kernel
theorem Be:(("rules_for":Str)=="paper")=false:=by decide+kernel
theorem DW:(("rules_for":Str)=="past")=false:=by decide+kernel
theorem pO:(("rules_for":Str)=="persons")=false:=by decide+kernel
theorem DY:(("rules_for":Str)=="rota")=false:=by decide+kernel
theorem rO:(("rules_for":Str)=="rules")=false:=by decide+kernel
theorem zp:(("rules_for":Str)=="skills")=false:=by decide+kernel
theorem Bf:(("rules_for":Str)=="total")=false:=by decide+kernel
theorem zq:(("rules_for":Str)=="weight")=false:=by decide+kernel
theorem qJ:(("rules_for":Str)=="wishes")=false:=by decide+kernel
theorem D_:(("rules_for":Str)=="word")=false:=by decide+kernel
theorem Ea:(("reach_of":Str)=="begin")=false:=by decide+kernel
theorem zr:(("reach_of":Str)=="carried")=false:=by decide+kernel
theorem Jc:(("reach_of":Str)=="days")=false:=by decide+kernel
theorem Jd:(("reach_of":Str)=="kept")=false:=by decide+kernel
theorem Eb:(("reach_of":Str)=="kinds")=false:=by decide+kernel
theorem Ec:(("reach_of":Str)=="leave")=false:=by decide+kernel
theorem Ed:(("reach_of":Str)=="level")=false:=by decide+kernel
theorem Je:(("reach_of":Str)=="most")=false:=by decide+kernel
theorem Jf:(("reach_of":Str)=="name")=false:=by decide+kernel
theorem Ef:(("reach_of":Str)=="needs")=false:=by decide+kernel
theorem Eh:(("reach_of":Str)=="pages")=false:=by decide+kernel
theorem Ei:(("reach_of":Str)=="pairs")=false:=by decide+kernel
theorem Ek:(("reach_of":Str)=="paper")=false:=by decide+kernel
theorem Jg:(("reach_of":Str)=="past")=false:=by decide+kernel
theorem zu:(("reach_of":Str)=="persons")=false:=by decide+kernel
theorem Jh:(("reach_of":Str)=="rota")=false:=by decide+kernel
theorem El:(("reach_of":Str)=="rules")=false:=by decide+kernel
theorem Bg:(("reach_of":Str)=="skills")=false:=by decide+kernel
theorem Em:(("reach_of":Str)=="total")=false:=by decide+kernel
theorem Bh:(("reach_of":Str)=="weight")=false:=by decide+kernel
theorem Bj:(("reach_of":Str)=="wishes")=false:=by decide+kernel
theorem Ji:(("reach_of":Str)=="word")=false:=by decide+kernel
theorem Eo:(("of_count":Str)=="begin")=false:=by decide+kernel
theorem zA:(("of_count":Str)=="carried")=false:=by decide+kernel
theorem Jj:(("of_count":Str)=="days")=false:=by decide+kernel
theorem Jk:(("of_count":Str)=="kept")=false:=by decide+kernel
theorem Ep:(("of_count":Str)=="kinds")=false:=by decide+kernel
theorem Es:(("of_count":Str)=="leave")=false:=by decide+kernel
theorem Et:(("of_count":Str)=="level")=false:=by decide+kernel
theorem Jl:(("of_count":Str)=="most")=false:=by decide+kernel
theorem Jm:(("of_count":Str)=="name")=false:=by decide+kernel
theorem Eu:(("of_count":Str)=="needs")=false:=by decide+kernel
theorem Ew:(("of_count":Str)=="pages")=false:=by decide+kernel
theorem Ey:(("of_count":Str)=="pairs")=false:=by decide+kernel
theorem Ez:(("of_count":Str)=="paper")=false:=by decide+kernel
theorem Jo:(("of_count":Str)=="past")=false:=by decide+kernel
theorem zB:(("of_count":Str)=="persons")=false:=by decide+kernel
theorem Jp:(("of_count":Str)=="rota")=false:=by decide+kernel
theorem EY:(("of_count":Str)=="rules")=false:=by decide+kernel
theorem Bl:(("of_count":Str)=="skills")=false:=by decide+kernel
theorem E_:(("of_count":Str)=="total")=false:=by decide+kernel
theorem Bm:(("of_count":Str)=="weight")=false:=by decide+kernel
theorem Bo:(("of_count":Str)=="wishes")=false:=by decide+kernel
theorem Jq:(("of_count":Str)=="word")=false:=by decide+kernel
theorem Jr:(("of_mark":Str)=="begin")=false:=by decide+kernel
theorem Bp:(("of_mark":Str)=="carried")=false:=by decide+kernel
theorem NQ:(("of_mark":Str)=="days")=false:=by decide+kernel
theorem NT:(("of_mark":Str)=="kept")=false:=by decide+kernel
theorem Jt:(("of_mark":Str)=="kinds")=false:=by decide+kernel
theorem Ju:(("of_mark":Str)=="leave")=false:=by decide+kernel
theorem Jv:(("of_mark":Str)=="level")=false:=by decide+kernel
theorem NZ:(("of_mark":Str)=="most")=false:=by decide+kernel
theorem N5:(("of_mark":Str)=="name")=false:=by decide+kernel
theorem Jw:(("of_mark":Str)=="needs")=false:=by decide+kernel
theorem Jx:(("of_mark":Str)=="pages")=false:=by decide+kernel
theorem Jy:(("of_mark":Str)=="pairs")=false:=by decide+kernel
theorem Jz:(("of_mark":Str)=="paper")=false:=by decide+kernel
theorem N6:(("of_mark":Str)=="past")=false:=by decide+kernel
theorem Bq:(("of_mark":Str)=="persons")=false:=by decide+kernel
theorem N7:(("of_mark":Str)=="rota")=false:=by decide+kernel
theorem JB:(("of_mark":Str)=="rules")=false:=by decide+kernel
theorem Fb:(("of_mark":Str)=="skills")=false:=by decide+kernel
theorem JC:(("of_mark":Str)=="total")=false:=by decide+kernel
theorem Fd:(("of_mark":Str)=="weight")=false:=by decide+kernel
theorem Fe:(("of_mark":Str)=="wishes")=false:=by decide+kernel
theorem N8:(("of_mark":Str)=="word")=false:=by decide+kernel
theorem Tz:(("floor":Str)=="begin")=false:=by decide+kernel
theorem JD:(("floor":Str)=="carried")=false:=by decide+kernel
theorem Xp:(("floor":Str)=="days")=false:=by decide+kernel
theorem Xq:(("floor":Str)=="kept")=false:=by decide+kernel
theorem TF:(("floor":Str)=="kinds")=false:=by decide+kernel
theorem TJ:(("floor":Str)=="leave")=false:=by decide+kernel
theorem TQ:(("floor":Str)=="level")=false:=by decide+kernel
theorem Xr:(("floor":Str)=="most")=false:=by decide+kernel
theorem Xu:(("floor":Str)=="name")=false:=by decide+kernel
theorem TV:(("floor":Str)=="needs")=false:=by decide+kernel
theorem TX:(("floor":Str)=="pages")=false:=by decide+kernel
theorem TY:(("floor":Str)=="pairs")=false:=by decide+kernel
theorem T5:(("floor":Str)=="paper")=false:=by decide+kernel
theorem Xv:(("floor":Str)=="past")=false:=by decide+kernel
theorem JF:(("floor":Str)=="persons")=false:=by decide+kernel
theorem Xw:(("floor":Str)=="rota")=false:=by decide+kernel
theorem T6:(("floor":Str)=="rules")=false:=by decide+kernel
theorem N_:(("floor":Str)=="skills")=false:=by decide+kernel
theorem T7:(("floor":Str)=="total")=false:=by decide+kernel
theorem Oa:(("floor":Str)=="weight")=false:=by decide+kernel
theorem Oc:(("floor":Str)=="wishes")=false:=by decide+kernel
theorem Xx:(("floor":Str)=="word")=false:=by decide+kernel
theorem Od:(("stands":Str)=="begin")=false:=by decide+kernel
theorem Ff:(("stands":Str)=="carried")=false:=by decide+kernel
theorem T8:(("stands":Str)=="days")=false:=by decide+kernel
theorem T9:(("stands":Str)=="kept")=false:=by decide+kernel
theorem Oe:(("stands":Str)=="kinds")=false:=by decide+kernel
theorem Og:(("stands":Str)=="leave")=false:=by decide+kernel
theorem Oh:(("stands":Str)=="level")=false:=by decide+kernel
theorem T_:(("stands":Str)=="most")=false:=by decide+kernel
theorem Ua:(("stands":Str)=="name")=false:=by decide+kernel
theorem Oi:(("stands":Str)=="needs")=false:=by decide+kernel
theorem Oj:(("stands":Str)=="pages")=false:=by decide+kernel
theorem Ol:(("stands":Str)=="pairs")=false:=by decide+kernel
theorem Om:(("stands":Str)=="paper")=false:=by decide+kernel
theorem Ub:(("stands":Str)=="past")=false:=by decide+kernel
theorem Fg:(("stands":Str)=="persons")=false:=by decide+kernel
theorem Uc:(("stands":Str)=="rota")=false:=by decide+kernel
theorem Oo:(("stands":Str)=="rules")=false:=by decide+kernel
theorem JG:(("stands":Str)=="skills")=false:=by decide+kernel
theorem Oq:(("stands":Str)=="total")=false:=by decide+kernel
theorem JH:(("stands":Str)=="weight")=false:=by decide+kernel
theorem JK:(("stands":Str)=="wishes")=false:=by decide+kernel
theorem Ud:(("stands":Str)=="word")=false:=by decide+kernel
end DL
end
section
namespace DL
open PySem L2
variable[bG]
theorem Ue(l:List Tx):bu (.lst (l.map D.str))=true∧fL (.lst (l.map D.str))≤60:=by
 have h1:eY (l.map D.str)=true:=by
  induction l with
  |nil=>rfl
  |cons x l ih=>simp [eY,bu,ih]
 have h2:jT (l.map D.str)=0:=by
  induction l with
  |nil=>rfl
  |cons x l ih=>simp only [eY,List.map_cons,bu,Bool.true_and] at h1;simp [jT,fL,ih h1]
 simp [bu,fL,h1,h2]
theorem dD{α:Type}{l:List α}{i:Nat}{p:α}(h:l[i]? =some p):l.take (i+1)=l.take i++[p]:=by
 obtain ⟨h1,h2⟩:=List.getElem?_eq_some_iff.mp h
 rw [List.take_succ_eq_append_getElem h1,h2]
theorem gA{α:Type}{f:α→D}{l:List α}{i:Nat}{x:D}(h:(l.map f)[i]? =some x): ∃p,l[i]? =some p∧x=f p:=by
 rw [List.getElem?_map] at h
 cases q:l[i]? with
 |none=>rw [q] at h;cases h
 |some p=>rw [q] at h;cases h;exact ⟨p,rfl,rfl⟩
def ad3(p:Nat→Bool):D→Bool
 | .str [c]=>p c
 |_=>false
theorem acf{p:Nat→Bool}{c:Nat}:ad3 p (.str [c])=p c:=rfl
def onI(p:Int→Bool):D→Bool
 | .int n=>p n
 |_=>false
def toI(f:Int→Int):D→D
 | .int n=> .int (f n)
 |_=> .non
theorem ahK(u:Tx)(p:Nat→Bool):(eO u).filter (ad3 p)=eO (u.filter p):=by
 unfold eO
 rw [List.filter_map];rfl
theorem aas{α:Type}{f:α→D}{l:List α}{x:D}(h:x∈l.map f): ∃p∈l,x=f p:=by
 obtain ⟨p,h1,h2⟩:=List.mem_map.mp h
 exact ⟨p,h1,h2.symm⟩
theorem bV(i:Nat):(0:Int)+(i:Int)=((i:Nat):Int):=by omega
theorem yW(ks:Tx):(eO ks).length=ks.length:=by simp [eO]
theorem yX{ks:Tx}{i:Nat}{x:D}(h:(eO ks)[i]? =some x): ∃c,ks[i]? =some c∧x= .str [c]:=by
 unfold eO at h
 exact gA h
theorem aD1:(([]:List D).length≤sizeLine)=True:=eq_true (by decide)
theorem aD2{x:D}:([x].length≤sizeLine)=True:=eq_true (by show 1≤sizeLine;decide)
theorem aD3{x y:D}:([x,y].length≤sizeLine)=True:=eq_true (by show 2≤sizeLine;decide)
theorem aD4{x y z:D}:([x,y,z].length≤sizeLine)=True:=eq_true (by show 3≤sizeLine;decide)
theorem aD5{x y z u:D}:([x,y,z,u].length≤sizeLine)=True:=eq_true (by show 4≤sizeLine;decide)
theorem aD6{α:Type}{a:α}{l:List α}:ixD (a::l) 0=some a:=rfl
theorem aD7{α:Type}{a b:α}{l:List α}:ixD (a::b::l) 1=some b:=rfl
theorem aD8{α:Type}{a b c:α}{l:List α}:ixD (a::b::c::l) 2=some c:=rfl
theorem aD9{α:Type}{a b c d:α}{l:List α}:ixD (a::b::c::d::l) 3=some d:=rfl
theorem aD_{α:Type}{a b c d e:α}{l:List α}:ixD (a::b::c::d::e::l) 4=some e:=rfl
end DL
end
section
namespace DL
open PySem L2
variable[bG]
def ltr(i:Int):Nat:=97+i.toNat
def agw(c:Int):Tx:=(List.range (c / 3%8).toNat).map fun (k:Nat)=>ltr (c / (16+5*(k:Int))%26)
def auZ(c p:Int):Tx:=(agw c).take (c / 7%((agw c).length+1)).toNat++[ltr ((c+p)%26)]++(agw c).drop (c / 7%((agw c).length+1)).toNat
def aE0(c p:Int):Tx:=if auZ c p=[97,108,108] then [97,108,108,101] else auZ c p
def aE1(c:Int):D→D
 | .int k=>D.str [ltr (c / (16+5*k)%26)]
 |_=> .non
end DL
end
section
namespace DL
open PySem L2
variable[bG]
structure Mk0(K:PySem.W.Frag)(C:Addr):Prop where
 makes:PySem.W.makesIn K C=true
 init:PySem.W.findIn K (.ref C) "__init__"=some (some (.builtin "object.__init__"))
 top:PySem.W.mroIn K C (.type "object")=some true
 kp:PySem.W.keepIn K (.ref C)=true
section
variable{X:Cx}{F0 H0:Hp}{C:Addr}{pins:List (Addr×Obj)}{σ:L2.St}{H:Hp}{s:Shared}{Q:VK}{p pos:Pos}{x:Str}
def aEa(C:Addr):DE:=fun _ P=>P (.obj C [])
structure akP(K:PySem.W.Frag)(C:Addr):Prop where
 cl:Cls K C
 ha:PySem.W.findIn K (.ref C) "__class__"=some (some (.builtin "object.__class__"))
 hn:PySem.W.specialIn K (.builtin "object.__class__") "__get__"=some (some (.builtin "getset_descriptor.__get__"))
 htk:PySem.W.takesIn K (.builtin "object.__class__")=some true
 hm:PySem.W.mroIn K C (.type "object")=some true
theorem kE{K:PySem.W.Frag}{C D:Addr}{b:Bool}(h1:PySem.W.subIn K (.ref C) (.ref D)=some b)(h0:PySem.W.subIn K (.ref D) (.ref D)=some true)(h2:PySem.W.typeIn K (.ref D)=some (.type "type"))(h3:PySem.W.isClsIn K D=true):PySem.W.kitOne K (.ref C) (.ref D)=some b:=by
 unfold PySem.W.kitOne
 split
 ·rename_i e
  have e:C=D:=by
   have:=beq_iff_eq.mp e
   injection this
  subst e
  rw [h0] at h1
  exact h1
 ·unfold PySem.W.kitCls
  have:((PySem.W.clsIn K D).isSome&&PySem.W.typeIn K (.ref D)==some (.type "type"))=true:=by
   rw [h2]
   unfold PySem.W.isClsIn at h3
   simp only [beq_self_eq_true,Bool.and_true]
   exact h3
  exact (if_pos this).trans h1
abbrev Kin:=List (Addr×Addr×Bool)
def akQ(K:PySem.W.Frag)(kin:Kin):Prop:= ∀p∈kin,akP K p.1∧PySem.W.kitOne K (.ref p.1) (.ref p.2.1)=some p.2.2
def Ug(kin:Kin):List D→(D→Prop)→Prop
 |[.obj C _, .fn C'],P=> ∃b,(C,C',b)∈kin∧P (.bl b)
 |_,_=>False
theorem jR.aBj{K:PySem.W.Frag}{F H:Hp}{v:V}{C:Addr}{gs:List (Str×D)}(e:Same F H)(r:jR K F H v (.obj C gs))(c:akP K C):TyX K H v (.ref C):=by
 obtain ⟨a,dx,fs,rfl,h,_⟩:=r.obj e
 exact .base (.ins h c.cl c.ha c.hn c.htk c.hm)
theorem akR{kin:Kin}(hk:akQ X.K kin):Mj X (.builtin "isinstance") (Ug kin):=⟨_,fun F H vs xs P Q e r d k=>by
 unfold Ug at d
 split at d
 ·obtain ⟨b,hb,d⟩:=d
  obtain ⟨v,w,rfl,r1,r2⟩:=r.two
  obtain ⟨c,h2⟩:=hk _ hb
  rename_i C gs C'
  have:w= .ref C':=by rcases r2 with r2|⟨fp,r2,nt⟩<;>cases r2;rfl
  subst this
  exact ⟨v, .ref C', .ref C, .ref C',b,rfl, .own _,r1.aBj e c,h2,k _ d F H _ (.refl e) (.bl _)⟩
 ·exact d.elim,call_isi⟩
def aBk(kin:Kin)(Cs:List Addr)(da:DE):DE:=fun ρ P=>da ρ fun x=>match x with| .obj C _=> ∃f:Addr→Bool,(∀C'∈Cs,(C,C',f C')∈kin)∧P (.bl (Cs.any f))|_=>False
def tCs(Cs:List Addr):TA:=fun _ H Q=>Q (Cs.map V.ref) H
def Uh:Nat:=2 ^ 1000
def acg:Nat:=2 ^ 4000
theorem apj{n:Nat}(h:n≤10 ^ 60):n<Uh:=Nat.lt_of_le_of_lt h (by decide+kernel)
theorem av1{n:Nat}(h:n<Uh):n<acg:=Nat.lt_of_lt_of_le h (by decide+kernel)
theorem akS{i j:Int}(h:i.natAbs<Uh)(k:j.natAbs<Uh):(i*j).natAbs<acg:=by
 rw [Int.natAbs_mul]
 exact Nat.lt_of_lt_of_le (Nat.mul_lt_mul'' h k) (by decide+kernel)
theorem agx{i:Int}(h0:0≤i)(h:i≤10 ^ 60):i.natAbs<Uh:=apj (by omega)
theorem apk{i:Int}(h:i.natAbs<Uh):(i ^ 2).natAbs<acg:=by
 have:i ^ 2=i*i:=by rw [Int.pow_succ,Int.pow_succ,Int.pow_zero,Int.one_mul]
 rw [this]
 exact akS h h
theorem akT{n:Nat}(h:n<Uh):n<2 ^ 1000:=h
theorem ach{n:Nat}(h:n<acg):n<2 ^ 4000:=h
def aci:DR2
 | .int i, .int j,P=>(i.natAbs<acg∧j.natAbs<acg)∧P (.int (i*j))
 |_,_,_=>False
theorem akU{K:PySem.W.Frag}:j8 K (rI CMulW fun i j=> .int (i*j)) aci:=by
 intro F H v w x y P Q e bx byy d k
 unfold aci at d
 split at d
 ·rename_i i j
  exact ⟨i,j,bx.int,byy.int,wide_mul (ach d.1.1) (ach d.1.2) (by decide) (by decide) (by decide),k _ d.2 F H _ (.refl e) (.int _)⟩
 ·exact d.elim
def au0(i j:Int):Prop:=0≤j∧j≤100∧i.natAbs<Uh
theorem apl:OpR X (binaryOp .Pow) (rI au0 fun i j=> .int (i ^ j.toNat)):=opI fun i j _ _ _ _ _ hc q=>PyProof.Rows.pow_int hc.1 (by
 have h1:Builtin.Int.intBits i≤i.natAbs.log2+1:=by
  unfold Builtin.Int.intBits
  split<;>omega
 have h2:=PySem.Flt.log2_lt_of (show 0<1000 by decide) (akT hc.2.2)
 have h3:(Builtin.Int.intBits i:Int)≤1000:=by omega
 have h4:(Builtin.Int.intBits i:Int)*j≤1000*100:=Int.mul_le_mul h3 hc.2.1 hc.1 (by decide)
 exact Int.le_trans h4 (by decide)) q
def acj:DR2
 | .int i, .int j,P=>(0≤j∧j≤100∧i.natAbs<Uh)∧P (.int (i ^ j.toNat))
 |_,_,_=>False
theorem akV{K:PySem.W.Frag}:j8 K (rI au0 fun i j=> .int (i ^ j.toNat)) acj:=by
 intro F H v w x y P Q e bx byy d k
 unfold acj at d
 split at d
 ·rename_i i j
  exact ⟨i,j,bx.int,byy.int,d.1,k _ d.2 F H _ (.refl e) (.int _)⟩
 ·exact d.elim
theorem apm{da db:DE}{a b:Expr}(ha:LB X F0 H0 a da)(hb:LB X F0 H0 b db):LE X F0 H0 (.BinOp a .Mult b pos) (dOp aci da db):=Cz akU op_mulW ha hb
theorem apn{da db:DE}{a b:Expr}(ha:LB X F0 H0 a da)(hb:LB X F0 H0 b db):LE X F0 H0 (.BinOp a .Pow b pos) (dOp acj da db):=Cz akV apl ha hb
def Ui:List D→(D→Prop)→Prop
 |[.int i],P=>P (.int i)
 |[.bl k],P=>P (.int (if k then 1 else 0))
 |_,_=>False
theorem aBl:Mj X (.type "int") Ui:=⟨_,fun F H vs xs P Q e r d k=>by
 unfold Ui at d
 split at d
 ·obtain ⟨v,rfl,b⟩:=r.one
  rw [b.int]
  exact .inl ⟨_,rfl,k _ d F H _ (.refl e) (.int _)⟩
 ·obtain ⟨v,rfl,b⟩:=r.one
  rw [b.bl]
  exact .inr ⟨_,rfl,k _ d F H _ (.refl e) (.int _)⟩
 ·exact d.elim,call_int1⟩
def aBm:DR2
 | .int i, .int j,P=>P (.bl (decide (i<j)))
 | .tup xs, .tup ys,P=> ∃ns ms,xs=ns.map D.int∧ys=ms.map D.int∧P (.bl (HT.lexLt ns ms))
 |_,_,_=>False
end
theorem fJ{α:Type}(g f:α→D){vs:List Nat}{dg:DG}{dt:DT}{de:DE}{ρ:Rh}: ∀{l:List α} {P:List D→Prop},(∀a∈l, ∀Q:D→Prop,Q (f a)→dg (g a) (eZ ρ vs) fun ρ'=>dt ρ' fun b=>b=true∧de ρ' Q)→
  (∀x ρ (A B:Rh→Prop),(∀r,A r→B r)→dg x ρ A→dg x ρ B)→(∀ρ (A B:Bool→Prop),(∀r,A r→B r)→dt ρ A→dt ρ B)→P (l.map f)→lcD vs dg dt de ρ (l.map g) P
 |[],P,_,_,_,h=>h
 |a::l,P,hs,m1,m2,h=>by
  rw [List.map_cons]
  unfold lcD
  refine m1 _ _ _ _ (fun r hr=>m2 r _ _ (fun b ⟨hb,q⟩=> ?_) hr) (hs a (by simp) (fun y=>lcD vs dg dt de ρ (l.map g) fun ys=>P (y::ys)) (fJ g f (fun y hy=>hs y (by simp [hy])) m1 m2 h))
  rw [if_pos hb]
  exact q
section
variable{i j:Int}{xs ys:List D}{P:D→Prop}{kin:Kin}{C C':Addr}{gs:List (Str×D)}{Cs:List Addr}{da:DE}{ρ:Rh}
theorem av2:aci (.int i) (.int j) P=((i.natAbs<acg∧j.natAbs<acg)∧P (.int (i*j))):=id rfl
theorem av3:acj (.int i) (.int j) P=((0≤j∧j≤100∧i.natAbs<Uh)∧P (.int (i ^ j.toNat))):=id rfl
theorem apo:Ui [.int i] P=P (.int i):=id rfl
theorem apq{k:Bool}:Ui [.bl k] P=P (.int (if k then 1 else 0)):=id rfl
theorem apr:aBm (.int i) (.int j) P=P (.bl (decide (i<j))):=id rfl
theorem aps:aBm (.tup xs) (.tup ys) P= ∃ns ms,xs=ns.map D.int∧ys=ms.map D.int∧P (.bl (HT.lexLt ns ms)):=id rfl
theorem av4:Ug kin [.obj C gs, .fn C'] P= ∃b,(C,C',b)∈kin∧P (.bl b):=id rfl
theorem aBn:aEa C ρ P=P (.obj C []):=id rfl
def au1(kin:Kin)(Cs:List Addr)(P:D→Prop)(x:D):Prop:=match x with| .obj C _=> ∃f:Addr→Bool,(∀C'∈Cs,(C,C',f C')∈kin)∧P (.bl (Cs.any f))|_=>False
theorem av5:aBk kin Cs da ρ P=da ρ (au1 kin Cs P):=id rfl
theorem apt:au1 kin Cs P (.obj C gs)= ∃f:Addr→Bool,(∀C'∈Cs,(C,C',f C')∈kin)∧P (.bl (Cs.any f)):=id rfl
end
end DL
end
section
namespace DL
open PySem L2 PySem.Spec PyProof.Rows
variable[bG]
def av6(ns:List Int):Nat:=(PyProof.Rows.firstMet (fun i=>ns.getD i 0) ns.length).length
section
variable{X:Cx}{F0 H0:Hp}{e a b c k o:Expr}{pos p p2 q apos:Pos}
def aBo(K:PySem.W.Frag)(ta:TE):TE:=fun σ H Q=>ta σ H fun x H1=> ∃(l:Addr) (ns:List Int),x= .ref l∧SqL K H1 l (ns.map V.int)∧ns.length≤4000∧Q (.int (av6 ns:Nat)) H1
def ad4(P:D→Prop)(ns:List Int):Prop:=ns.length≤4000∧P (.int (av6 ns:Nat))
def akW(P:D→Prop)(x:D):Prop:=match x with| .lst xs=>dJ (j6 xs) (ad4 P)|_=>False
def apu(da:DE):DE:=fun ρ P=>da ρ (akW P)
def akX(x:D)(P:D→Prop)(y:D):Prop:=match y with| .int i=>i= -1∧(match x with| .lst xs=>P (.lst xs.reverse)|_=>False)|_=>False
def akY(dk:DE)(ρ:Rh)(P:D→Prop)(x:D):Prop:=dk ρ (akX x P)
def aEb(da dk:DE):DE:=fun ρ P=>da ρ (akY dk ρ P)
def aFm:V→List V→Hp→VK→Prop:=fun x vs H Q=> ∃(l:Addr) (xs:List V) (i:Int) (y:V),x= .ref l∧vs=[.int i,y]∧H l=some (.lst xs)∧xs.length<sizeLine∧0≤i∧i<2 ^ 63∧
  Q .non (upd H l (.lst (xs.take i.toNat++[y]++xs.drop i.toNat)))
def akZ(E:DEn)(ρ:Rh)(i:Nat)(xs:List D)(j:Int)(y:D):Prop:=(xs.length<16777216∧0≤j∧j<2 ^ 63)∧iw i (.ow (.lst (xs.take j.toNat++[y]++xs.drop j.toNat))) ρ E.nx
def agy(db:DE)(E:DEn)(ρ:Rh)(i:Nat)(xs:List D)(j:D):Prop:=match j with| .int j=>db ρ (akZ E ρ i xs j)|_=>False
def au2(da db:DE)(E:DEn)(ρ:Rh)(i:Nat)(x:D):Prop:=match x with| .lst xs=>da ρ (agy db E ρ i xs)|_=>False
def aBp(i:Nat)(da db:DE):DS:=fun E ρ=>match ρ[i]? with|some (.ow (.lst xs))=>da ρ (agy db E ρ i xs)|_=>False
end
section
variable{xs:List D}{P:D→Prop}{da db dk:DE}{ρ:Rh}{i:Nat}{E:DEn}{j:Int}{y x:D}{ns:List Int}
theorem av7:apu da ρ P=da ρ (akW P):=id rfl
theorem apv:akW P (.lst xs)=dJ (j6 xs) (ad4 P):=id rfl
theorem ak0:ad4 P ns=(ns.length≤4000∧P (.int (av6 ns:Nat))):=id rfl
theorem aBq:aEb da dk ρ P=da ρ (akY dk ρ P):=id rfl
theorem apw:akY dk ρ P x=dk ρ (akX x P):=id rfl
theorem apx:akX (.lst xs) P (.int j)=(j= -1∧P (.lst xs.reverse)):=id rfl
theorem aBr:aBp i da db E ρ=iI i ρ (au2 da db E ρ i):=by
 unfold aBp iI
 cases ρ[i]? with
 |none=>rfl
 |some s=>cases s<;>first|rfl|(rename_i x;cases x<;>rfl)
theorem apy:au2 da db E ρ i (.lst xs)=da ρ (agy db E ρ i xs):=id rfl
theorem apz:agy db E ρ i xs (.int j)=db ρ (akZ E ρ i xs j):=id rfl
theorem apA:akZ E ρ i xs j y=((xs.length<16777216∧0≤j∧j<2 ^ 63)∧iw i (.ow (.lst (xs.take j.toNat++[y]++xs.drop j.toNat))) ρ E.nx):=id rfl
end
end DL
end
section
namespace DL
open PySem L2
variable[bG]
def dgL(n:Nat)(u:DGs):DG:=fun x ρ P=>match x with| .lst xs=>xs.length=n∧u xs ρ P|_=>False
section
variable{xs:List D}{n:Nat}{u:DGs}{ρ:Rh}{P:Rh→Prop}
theorem aEc:dgL n u (.lst xs) ρ P=(xs.length=n∧u xs ρ P):=id rfl
end
end DL
end
section
namespace DL
open PySem L2
variable[bG]
section
variable{X:Cx}{F0 H0:Hp}{e a b c o:Expr}{pos p apos:Pos}
def aBs(dg:DG)(E:DEn)(ρ:Rh)(i:Nat)(x:D):Prop:=match x with| .lst xs=> ∃ys y,xs=ys++[y]∧dg y (ρ.set i (.ow (.lst ys))) E.nx|_=>False
def aBt(i:Nat)(dg:DG):DS:=fun E ρ=>match ρ[i]? with|some (.ow x)=>aBs dg E ρ i x|_=>False
theorem aY.split{K:PySem.W.Frag}{F:Hp}: ∀{vs:List V} {ys:List D} {y:D},aY K F vs (ys++[y])→ ∃us v,vs=us++[v]∧aY K F us ys∧Rep K F v y
 |_,[],_, .cons r .nil=>⟨[],_,rfl, .nil,r⟩
 |_,_::ys,_, .cons r rs=>by
  obtain ⟨us,v,rfl,h1,h2⟩:=aY.split rs
  exact ⟨_::us,v,rfl, .cons r h1,h2⟩
end
section
variable{i:Nat}{dg:DG}{E:DEn}{ρ:Rh}{xs:List D}
theorem aBu:aBt i dg E ρ=iI i ρ (aBs dg E ρ i):=by
 unfold aBt iI
 cases ρ[i]? with
 |none=>rfl
 |some s=>cases s<;>rfl
end
section
variable{X:Cx}{F0 H0:Hp}{e a b c o:Expr}{pos p p2 p3 apos apos2:Pos}{CX:CXT}{k:Nat}{f C:Addr}{fd:FuncData}{ps:List Str}{S:d9}{EE:XK}{x:Str}
def ak1(C:Addr)(S:d9)(E:DEn)(ρ:Rh)(i:Nat)(x:D):Prop:=match x with| .lst xs=> ∃ys y,xs=ys++[y]∧S [y] (fun gs=>ys.length<sizeLine∧E.nx (ρ.set i (.ow (.lst (ys++[.obj C gs])))))|_=>False
def ak2(i:Nat)(C:Addr)(S:d9):DS:=fun E ρ=>match ρ[i]? with|some (.ow x)=>ak1 C S E ρ i x|_=>False
end
section
variable{i:Nat}{C:Addr}{S:d9}{E:DEn}{ρ:Rh}
theorem apB:ak2 i C S E ρ=iI i ρ (ak1 C S E ρ i):=by
 unfold ak2 iI
 cases ρ[i]? with
 |none=>rfl
 |some s=>cases s<;>rfl
end
end DL
end
section
namespace DL
open PySem L2
variable[bG]
inductive ahL(K:PySem.W.Frag)(F0 H0 F:Hp):V→D→Prop
 |sh {v:V} {d:D}:Rep K F v d→ahL K F0 H0 F v d
 |bo {a:Addr} {vs:List V} {xs:List D}:H0 a=some (.lst vs)→aY K F0 vs xs→ahL K F0 H0 F (.ref a) (.lst xs)
theorem ahL.mono{K:PySem.W.Frag}{F0 H0 F F':Hp}(e:Same F F'){v:V}{d:D}:ahL K F0 H0 F v d→ahL K F0 H0 F' v d
 | .sh r=> .sh (r.mono e)
 | .bo h r=> .bo h r
inductive agz(K:PySem.W.Frag)(F0 H0 F:Hp):List V→List D→Prop
 |nil:agz K F0 H0 F [] []
 |cons {v:V} {vs:List V} {d:D} {ds:List D}:ahL K F0 H0 F v d→agz K F0 H0 F vs ds→agz K F0 H0 F (v::vs) (d::ds)
def aBv(K:PySem.W.Frag)(F0 H0:Hp)(d:DA):TA:=fun σ H Q=> ∃F ρ fps P,bJ K F0 H0 F H σ ρ fps∧d ρ P∧ ∀xs,P xs→ ∀F' H' vs,Ext F H F' H'→agz K F0 H0 F' vs xs→Q vs H'
abbrev LAS(X:Cx)(F0 H0:Hp)(es:List Expr)(d:DA):Prop:=PA X es (aBv X.K F0 H0 d)
def agA(i:Nat):DE:=fun ρ P=>match ρ[i]? with|some (.sh d)=>P d|some (.bo (.lst xs))=>P (.lst xs)|_=>False
section
variable{X:Cx}{F0 H0:Hp}{e a b:Expr}{es:List Expr}{pos p:Pos}
end
section
variable{i:Nat}{ρ:Rh}{d:D}{s:Sl}{xs:List D}{P:D→Prop}
theorem ak3:(agA 0 (.bo (.lst xs)::ρ) P)=P (.lst xs):=id rfl
theorem ak4:(agA 0 (.sh d::ρ) P)=P d:=id rfl
theorem ak5:(agA (i+1) (s::ρ) P)=agA i ρ P:=id rfl
end
section
variable{i:Nat}{ρ:Rh}{d:D}{s:Sl}{PL:List D→Prop}
theorem av8:(ao8 0 (.bo d::ρ) PL)=dJ (kh d) PL:=by
 show (match kh d with|some xs=>PL xs|none=>False)=_
 unfold dJ
 cases kh d<;>rfl
theorem apC:(ao8 0 (.sh d::ρ) PL)=dJ (kh d) PL:=by
 show (match kh d with|some xs=>PL xs|none=>False)=_
 unfold dJ
 cases kh d<;>rfl
theorem av9:(ao8 (i+1) (s::ρ) PL)=ao8 i ρ PL:=id rfl
end
def wV(n:Nat)(x:Tx):Tx:=(List.replicate n x).flatten
theorem ack(x:Array Nat): ∀(n:Nat) (a:Array Nat),(List.replicate n x).foldl (· ++ ·) a=a++(List.replicate n x.toList).flatten.toArray
 | 0,a=>by simp
 |n+1,a=>by
  rw [List.replicate_succ,List.foldl_cons,ack x n (a++x),List.replicate_succ,List.flatten_cons]
  apply Array.toList_inj.mp
  simp
theorem acl(n:Nat)(x:Tx):(wV n x).length=n*x.length:=by simp [wV]
def au3:R2:=fun v w H Q=> ∃x n,v= .str x∧w= .int n∧(-1000000≤n∧n≤1000∧x.length≤1000)∧Q (.str (aZ (wV n.toNat (lY x)))) H
section
variable{X:Cx}{F0 H0:Hp}{e a b:Expr}{pos p:Pos}
theorem apD:OpR X (binaryOp .Mult) au3:=by
 intro pins s σ H v w u u' Q I rv rw' h
 obtain ⟨x,n,rfl,rfl,⟨h0,h1,h2⟩,q⟩:=h
 obtain ⟨t,rfl⟩:=rv
 obtain ⟨t',rfl⟩:=rw'
 have sz: ∀y:Str,y=aZ (wV n.toNat (lY x))→y.length≤sizeLine:=fun y e=>by
  rw [e,ju,acl,szl]
  have hx:(lY x).length≤1000:=h2
  have:n.toNat*(lY x).length≤1000*1000:=Nat.mul_le_mul (by omega) hx
  omega
 have hn:x.length*n.toNat≤1000*1000:=Nat.mul_le_mul h2 (by omega)
 refine PySem.P.mul_str ?_ (fun g _=> ?_) (fun g _=> ?_) ?_
 ·simp only [Bool.or_eq_false_iff,decide_eq_false_iff_not]
  constructor<;>omega
 ·have:(1000:Int)≤(2 ^ 63 - 1) / n:=by
   rw [Int.le_ediv_iff_mul_le (by omega)]
   omega
  omega
 ·unfold Builtin.Str.tooLong
  rw [decide_eq_false]
  rw [szl];omega
 ·by_cases g:n<1
  ·rw [if_pos g]
   have e:(Str.empty:Str)=aZ (wV n.toNat (lY x)):=by
    have:n.toNat=0:=by omega
    rw [this];rfl
   rw [e]
   exact ⟨sz _ rfl, .str _,H,I.tok _,⟨_,rfl⟩,q⟩
  ·rw [if_neg g]
   by_cases g2:(n==1 || x.length==0)=true
   ·rw [if_pos g2]
    have e:x=aZ (wV n.toNat (lY x)):=by
     simp only [Bool.or_eq_true,beq_iff_eq] at g2
     rcases g2 with e|e
     ·rw [e]
      show x=aZ (wV 1 (lY x))
      have:wV 1 (lY x)=lY x:=by simp [wV]
      rw [this,vJ]
     ·have ex:lY x=[]:=List.eq_nil_of_length_eq_zero (by have e':x.cps.size=0:=e;simpa [lY] using e')
      have:wV n.toNat (lY x)=lY x:=by rw [ex];simp [wV]
      rw [this,vJ]
    refine ⟨.str x,H,I,⟨_,rfl⟩, ?_⟩
    rw [←e] at q
    exact q
   ·rw [if_neg g2]
    have e:(⟨(List.replicate n.toNat x.cps).foldl (· ++ ·) #[]⟩:Str)=aZ (wV n.toNat (lY x)):=by
     rw [ack]
     simp [aZ,wV,lY]
    rw [e]
    exact ⟨sz _ rfl, .str _,H,I.tok _,⟨_,rfl⟩,q⟩
def zU:DR2
 | .str x, .int n,P=>(-1000000≤n∧n≤1000∧x.length≤1000)∧P (.str (wV n.toNat x))
 |_,_,_=>False
theorem ak6{K:PySem.W.Frag}:j8 K au3 zU:=by
 intro F H v w x y P Q e bx byy d k
 unfold zU at d
 split at d
 ·rename_i x n
  obtain ⟨rfl,h1,h2⟩:=bx.str
  refine ⟨_,n,rfl,byy.int,⟨d.1.1,d.1.2.1,by rw [ju];exact d.1.2.2⟩,k _ d.2 F H _ (.refl e) ?_⟩
  rw [adM]
  refine .str _ ?_ (abp h2 fun c hc=> ?_)
  ·rw [acl,szl]
   have:n.toNat*x.length≤1000*1000:=Nat.mul_le_mul (by omega) d.1.2.2
   omega
  ·simp only [wV,List.mem_flatten,List.mem_replicate] at hc
   obtain ⟨l,⟨_,rfl⟩,hc⟩:=hc
   exact hc
 ·exact d.elim
theorem PQ{da db:DE}(ha:LB X F0 H0 a da)(hb:LB X F0 H0 b db):LE X F0 H0 (.BinOp a .Mult b pos) (dOp zU da db):=Cz ak6 apD ha hb
def Yq(lo hi:Option Int):DR1
 | .tup xs,P=> ¬(HT.sIx xs.length 0 lo=0∧HT.sIx xs.length xs.length hi=xs.length)∧P (.tup (cut xs lo hi))
 |_,_=>False
def aEd(da:DE)(dl dh:DO):DE:=fun ρ P=>da ρ fun x=>dl ρ fun lo=>dh ρ fun hi=>Yq lo hi x P
end
section
variable{da db:DE}{dl dh:DO}{ρ:Rh}{P:D→Prop}{x:Tx}{n:Int}{xs:List D}{y:D}{lo hi:Option Int}
def aBw(dl dh:DO)(ρ:Rh)(P:D→Prop)(x:D):Prop:=dl ρ (fun lo=>dh ρ fun hi=>Yq lo hi x P)
def aBx(x:D)(dh:DO)(ρ:Rh)(P:D→Prop)(lo:Option Int):Prop:=dh ρ fun hi=>Yq lo hi x P
def aBy(x:D)(lo:Option Int)(P:D→Prop)(hi:Option Int):Prop:=Yq lo hi x P
theorem aBz:(aEd da dl dh ρ P)=(da ρ (aBw dl dh ρ P)):=id rfl
theorem av_:(aBw dl dh ρ P y)=(dl ρ (aBx y dh ρ P)):=id rfl
theorem awa:(aBx y dh ρ P lo)=(dh ρ (aBy y lo P)):=id rfl
theorem awb:(aBy y lo P hi)=(Yq lo hi y P):=id rfl
theorem awc:(Yq lo hi (.tup xs) P)=(¬(HT.sIx xs.length 0 lo=0∧HT.sIx xs.length xs.length hi=xs.length)∧P (.tup (cut xs lo hi))):=id rfl
theorem awd:(zU (.str x) (.int n) P)=((-1000000≤n∧n≤1000∧x.length≤1000)∧P (.str (wV n.toNat x))):=id rfl
end
def awe:List D→(D→Prop)→Prop
 |[.int i],P=>(0≤i∧i<10)∧P (.str [48+i.toNat])
 |_,_=>False
theorem apE{i:Int}{P:D→Prop}:(awe [.int i] P)=((0≤i∧i<10)∧P (.str [48+i.toNat])):=id rfl
end DL
end
section
namespace DL
open PySem L2 PySem.Spec PyProof.Rows
variable[bG]
def ahM(l:List (Tx×D))(k:Tx):Bool:=l.any fun p=>decide (p.1=k)
def awf(l:List (Tx×D))(k:Tx)(d:D):List (Tx×D):=if ahM l k=true then l.map fun p=>if p.1=k then (p.1,d) else p else l++[(k,d)]
theorem lZ.length{K:PySem.W.Frag}{F:Hp}: ∀{vs:List (Key×V)} {ds:List (Tx×D)},lZ K F vs ds→vs.length=ds.length
 |_,_, .nil=>rfl
 |_,_, .cons _ _ r=>by simp [lZ.length r]
theorem ak7(a b:Tx):((.inr (aZ a):Key)= .inr (aZ b))↔a=b:=⟨fun h=>uE (Sum.inr.inj h),fun h=>by rw [h]⟩
theorem lZ.any{K:PySem.W.Frag}{F:Hp}(k:Tx): ∀{vs:List (Key×V)} {ds:List (Tx×D)},lZ K F vs ds→(vs.any fun kv=>decide (kv.1= .inr (aZ k)))=ahM ds k
 |_,_, .nil=>rfl
 |_,_, .cons (k:=a) h1 h2 r=>by
  have ih:=lZ.any k r
  unfold ahM at ih ⊢
  rw [List.any_cons,List.any_cons,ih]
  congr 1
  simp only [ak7]
theorem lZ.app{K:PySem.W.Frag}{F:Hp}{v:V}{d:D}{k:Tx}(hk:Rep K F (.str (aZ k)) (.str k))(hv:Rep K F v d): ∀{vs:List (Key×V)} {ds:List (Tx×D)},lZ K F vs ds→lZ K F (vs++[(.inr (aZ k),v)]) (ds++[(k,d)])
 |_,_, .nil=> .cons hk hv .nil
 |_,_, .cons h1 h2 r=> .cons h1 h2 (r.app hk hv)
theorem lZ.repl{K:PySem.W.Frag}{F:Hp}{v:V}{d:D}{k:Tx}(hv:Rep K F v d): ∀{vs:List (Key×V)} {ds:List (Tx×D)},lZ K F vs ds→
  lZ K F (vs.map fun kv=>if kv.1= .inr (aZ k) then (kv.1,v) else kv) (ds.map fun p=>if p.1=k then (p.1,d) else p)
 |_,_, .nil=> .nil
 |_,_, .cons (k:=a) h1 h2 r=>by
  rw [List.map_cons,List.map_cons]
  by_cases e:a=k
  ·subst e
   simp only [if_true]
   exact .cons h1 hv (r.repl hv)
  ·have e': ¬((.inr (aZ a):Key)= .inr (aZ k)):=fun z=>e ((ak7 _ _).mp z)
   simp only [e,e',if_false]
   exact .cons h1 h2 (r.repl hv)
theorem lZ.put{K:PySem.W.Frag}{F:Hp}{v:V}{d:D}{k:Tx}{vs:List (Key×V)}{ds:List (Tx×D)}(r:lZ K F vs ds)(hk:Rep K F (.str (aZ k)) (.str k))(hv:Rep K F v d):lZ K F (putK vs (.inr (aZ k)) v) (awf ds k d):=by
 unfold putK awf
 rw [r.any k]
 split
 ·exact r.repl hv
 ·exact r.app hk hv
theorem lZ.has{K:PySem.W.Frag}{F:Hp}{k:Tx}{vs:List (Key×V)}{ds:List (Tx×D)}(r:lZ K F vs ds):(valV vs (.inr (aZ k))).isSome=ahM ds k:=by
 rw [←valV_any,r.any k]
theorem lZ.keys{K:PySem.W.Frag}{F:Hp}: ∀{vs:List (Key×V)} {ds:List (Tx×D)},lZ K F vs ds→vs.map (·.1)=(ds.map fun p=>aZ p.1).map Sum.inr
 |_,_, .nil=>rfl
 |_,_, .cons h1 h2 r=>by rw [List.map_cons,r.keys];rfl
theorem lZ.get{K:PySem.W.Frag}{F:Hp}: ∀{vs:List (Key×V)} {ds:List (Tx×D)} {i:Nat} {k:Key} {v:V},lZ K F vs ds→vs[i]? =some (k,v)→ ∃p,ds[i]? =some p∧k= .inr (aZ p.1)∧Rep K F (.str (aZ p.1)) (.str p.1)∧Rep K F v p.2
 |_,_,_,_,_, .nil,h=>by simp at h
 |_,_,0,_,_, .cons h1 h2 r,e=>by simp at e;obtain ⟨rfl,rfl⟩:=e;exact ⟨_,rfl,rfl,h1,h2⟩
 |_,_,i+1,_,_, .cons h1 h2 r,e=>by
  obtain ⟨p,h⟩:=lZ.get (i:=i) r (by simpa using e)
  exact ⟨p,by simpa using h.1,h.2⟩
section
variable{X:Cx}{F0 H0:Hp}{e a b c tg o:Expr}{es:List Expr}{pos p apos:Pos}{x:Str}
theorem acn{a:Addr}: ∀{fps:List (List Addr)} {m j:Nat} {g h:List Addr},fps.flatten.Nodup→fps[m]? =some g→fps[j]? =some h→a∈g→a∈h→m≠j→False
 |[],_,_,_,_,_,h,_,_,_,_=>by simp at h
 |f::fs,0,0,_,_,_,_,_,_,_,h=>h rfl
 |f::fs,0,j+1,g,h,nd,e1,e2,h1,h2,_=>by
  rw [List.flatten_cons,List.nodup_append] at nd
  simp at e1 e2
  subst e1
  exact nd.2.2 a h1 a (List.mem_flatten.mpr ⟨_,List.mem_of_getElem? e2,h2⟩) rfl
 |f::fs,m+1,0,g,h,nd,e1,e2,h1,h2,_=>by
  rw [List.flatten_cons,List.nodup_append] at nd
  simp at e1 e2
  subst e2
  exact nd.2.2 a h2 a (List.mem_flatten.mpr ⟨_,List.mem_of_getElem? e1,h1⟩) rfl
 |f::fs,m+1,j+1,g,h,nd,e1,e2,h1,h2,hne=>by
  rw [List.flatten_cons,List.nodup_append] at nd
  simp at e1 e2
  exact acn nd.2.1 e1 e2 h1 h2 fun z=>hne (by rw [z])
theorem bB.au4{K:PySem.W.Frag}{F0 H0:Hp}{F H:Hp}{a:Addr}{vs:List (Key×V)}{ds:List (Tx×D)}(nF:F a=none)(r:lZ K F vs ds): ∀{σ:L2.St} {ρ:Rh} {fps:List (List Addr)} {i:Nat},bB K F0 H0 F H σ ρ fps→fps.flatten.Nodup→fps[i]? =some [a]→σ[i]? =some (some (.ref a))→
  bB K F0 H0 F (upd H a (.dK vs)) σ (ρ.set i (.dk ds)) fps:=by
 intro σ ρ fps i h
 induction h generalizing i with
 |nil=>intro _ h;simp at h
 |cons q rr ih=>
  intro nd h1 h2
  rw [List.flatten_cons,List.nodup_append] at nd
  cases i with
  |zero=>
   simp at h1 h2
   subst h1
   rw [h2]
   exact .cons (.dk upd_same r nF) (rr.keep fun hm=>nd.2.2 a (by simp) a hm rfl)
  |succ i=>
   simp at h1 h2
   have n:a∉_:=fun hm=>nd.2.2 a hm a (List.mem_flatten.mpr ⟨_,List.mem_of_getElem? h1,by simp⟩) rfl
   refine .cons ?_ (ih nd.2.1 h1 h2)
   have:=bB.keep (u:= .dK vs) (bB.cons q bB.nil) (a:=a) (by simpa using n)
   cases this with
   |cons q' _=>exact q'
theorem bJ.au4{K:PySem.W.Frag}{F0 H0 F H:Hp}{σ:L2.St}{ρ:Rh}{fps:List (List Addr)}{i:Nat}{a:Addr}{vs:List (Key×V)}{ds:List (Tx×D)}(R:bJ K F0 H0 F H σ ρ fps)(h1:fps[i]? =some [a])(h2:σ[i]? =some (some (.ref a)))(r:lZ K F vs ds):
  bJ K F0 H0 F (upd H a (.dK vs)) σ (ρ.set i (.dk ds)) fps:=by
 have ha:a∈fps.flatten:=List.mem_flatten.mpr ⟨_,List.mem_of_getElem? h1,by simp⟩
 have nF:=(oY R.s a ha).1
 exact ⟨(R.afp ha).1,R.s.au4 nF r R.p.nd h1 h2,R.p,(R.afp ha).2⟩
def aEe(i:Nat):DS:=fun E ρ=>E.nx (ρ.set i (.dk []))
def aEf(i:Nat)(dk dv:DE):DS:=fun E ρ=>dk ρ fun x=>dv ρ fun y=>match x with| .str k=>E.nx (ρ.set i (.dk [(k,y)]))|_=>False
def aFn(i j:Nat):DS:=fun E ρ=>match ρ[j]? with|some (.dk ds)=>E.nx ((ρ.set j .no).set i (.dk ds))|_=>False
end
end DL
end
section
namespace DL
open PySem L2 PySem.Spec PyProof.Rows
variable[bG]
def ak8(i:Nat)(ρ:Rh)(P:List (Tx×D)→Prop):Prop:=match ρ[i]? with|some (.dk ds)=>P ds|_=>False
section
variable{X:Cx}{F0 H0:Hp}{e a b c tg o:Expr}{es:List Expr}{pos p apos cpos:Pos}{x:Str}
def aEg(i:Nat)(E:DEn)(ρ:Rh)(ds:List (Tx×D))(y:D)(x:D):Prop:=match x with| .str k=>ds.length<sizeLine∧iw i (.dk (awf ds k y)) ρ E.nx|_=>False
def aEh(i:Nat)(dk:DE)(E:DEn)(ρ:Rh)(ds:List (Tx×D))(y:D):Prop:=dk ρ (aEg i E ρ ds y)
def aEi(i:Nat)(dv dk:DE)(E:DEn)(ρ:Rh)(ds:List (Tx×D)):Prop:=dv ρ (aEh i dk E ρ ds)
def aE2(i:Nat)(dv dk:DE):DS:=fun E ρ=>ak8 i ρ (aEi i dv dk E ρ)
def awg(n:Bool)(ds:List (Tx×D))(P:Bool→Prop)(x:D):Prop:=match x with| .str k=>P (if n then !ahM ds k else ahM ds k)|_=>False
def awh(n:Bool)(dk:DE)(ρ:Rh)(P:Bool→Prop)(ds:List (Tx×D)):Prop:=dk ρ (awg n ds P)
def aE3(n:Bool)(i:Nat)(dk:DE):DT:=fun ρ P=>ak8 i ρ (awh n dk ρ P)
def awi(P:D→Prop)(ds:List (Tx×D)):Prop:=P (.int (ds.length:Nat))
def aE4(i:Nat):DE:=fun ρ P=>ak8 i ρ (awi P)
end
end DL
end
section
namespace DL
open PySem L2 PySem.Spec PyProof.Rows
variable[bG]
section
variable{K:PySem.W.Frag}{F0 H0 F H:Hp}
end
def awj(i:Nat)(dg:DG)(db:DS)(E:DEn)(ρ:Rh)(ds:List (Tx×D)):Prop:=iw i .no ρ (wU dg db E (ds.map fun p=> .tup [.str p.1,p.2]))
def aE5(i:Nat)(dg:DG)(db:DS):DS:=fun E ρ=>ak8 i ρ (awj i dg db E ρ)
section
variable{X:Cx}{F0 H0:Hp}{e:Expr}{pos apos cpos:Pos}
end
end DL
end
section
namespace DL
open PySem L2 PySem.Spec PyProof.Rows
variable[bG]
def au5(p d:Addr):HO:= .ext fun h=>PySem.W.KdlKeysView h p d
section
variable{X:Cx}
def aEj:V→List V→Hp→VK→Prop:=fun x xs H Q=> ∃(a:Addr) (kvs:List (Key×V)),x= .ref a∧xs=[]∧H a=some (.dK kvs)∧ ∀p,H p=none→Q (.ref p) (upd H p (au5 p a))
def aBA:List V→Hp→VK→Prop:=fun xs H Q=> ∃(p a:Addr) (kvs:List (Key×V)) (ks:List Str),xs=[.ref p]∧H p=some (au5 p a)∧H a=some (.dK kvs)∧kvs.map (·.1)=ks.map Sum.inr∧
  ∀ys l,ys.Perm ks→sortedS ys=true→H l=none→Q (.ref l) (upd H l (.lst (ys.map V.str)))
end
def lV(ys:List Tx):Prop:=sortedS (ys.map aZ)=true
section
variable{X:Cx}{F0 H0:Hp}{e:Expr}{pos p apos cpos:Pos}
def apF(P:D→Prop)(ds:List (Tx×D)):Prop:=ds.length≤sizeLine∧ ∀ys:List Tx,ys.Perm (ds.map (·.1))→lV ys→P (.lst (ys.map D.str))
def aEk(i:Nat):DE:=fun ρ P=>ak8 i ρ (apF P)
end
end DL
end
section
namespace DL
open PySem L2
variable[bG]
def aEm(i:Nat)(E:DEn)(ρ:Rh)(x y:D):Prop:=match x with| .str k=>iw i (.dk [(k,y)]) ρ E.nx|_=>False
def aFo(i:Nat)(dv:DE)(E:DEn)(ρ:Rh)(x:D):Prop:=dv ρ (aEm i E ρ x)
def aBB(i:Nat)(ds:List (Tx×D))(E:DEn)(ρ:Rh):Prop:=iw i (.dk ds) ρ E.nx
def aFp(i j:Nat)(E:DEn)(ρ:Rh)(ds:List (Tx×D)):Prop:=iw j .no ρ (aBB i ds E)
section
variable{i j:Nat}{ρ:Rh}{s:Sl}{ds:List (Tx×D)}{PK:List (Tx×D)→Prop}{P:D→Prop}{PB:Bool→Prop}{E:DEn}{da db:DE}{dg:DG}{d1:DS}{x y:D}{k:Tx}{n:Bool}
end
def aFq(l:List Tx)(k:Tx):List Tx:=if k∈l then l else l++[k]
end DL
end
section
namespace DL
open PySem L2 PySem.Spec PyProof.Rows
variable[bG]
def aFr(K:PySem.W.Frag):R2:=fun x y H Q=> ∃a b xs,x= .ref a∧y= .ref b∧SqL K H a xs∧SqL K H b []∧Q (.bl xs.isEmpty) H
def aFs:DR2
 | .lst xs, .lst [],P=>P (.bl xs.isEmpty)
 |_,_,_=>False
end DL
end
section
namespace DL
open PySem L2 PySem.Spec PyProof.Rows
variable[bG]
def ak9:D→Prop| .lst _=>False|_=>True
section
variable{K:PySem.W.Frag}{F H:Hp}
theorem gU.Br: ∀{vs:List V} {ds:List D} {fp:List Addr} {k:Nat} {d:D},gU K F H vs ds fp→ds[k]? =some d→ ∃v,vs[k]? =some v∧jR K F H v d
 |_,_,_,_,_, .nil,e=>by simp at e
 |_,_,_,0,_, .sh r n q,e=>by simp at e;subst e;exact ⟨_,rfl, .inl r⟩
 |_,_,_,0,_, .ow h r z n q,e=>by simp at e;subst e;exact ⟨_,rfl, .inr ⟨_, .lst h r z n,trivial⟩⟩
 |_,_,_,k+1,_, .sh r n q,e=>by
  obtain ⟨v,h1,h2⟩:=q.Br (k:=k) (by simpa using e)
  exact ⟨v,by simpa using h1,h2⟩
 |_,_,_,k+1,_, .ow h r z n q,e=>by
  obtain ⟨v,h1,h2⟩:=q.Br (k:=k) (by simpa using e)
  exact ⟨v,by simpa using h1,h2⟩
theorem gU.setAt: ∀{vs:List V} {ds:List D} {fp:List Addr} {k:Nat} {xs:List D},gU K F H vs ds fp→fp.Nodup→ds[k]? =some (.lst xs)→
  ∃b ws,vs[k]? =some (.ref b)∧H b=some (.lst ws)∧aY K F ws xs∧xs.length≤sizeLine∧b∈fp∧F b=Option.none∧
   ∀ws' xs',aY K F ws' xs'→xs'.length≤sizeLine→gU K F (upd H b (.lst ws')) vs (ds.set k (.lst xs')) fp
 |_,_,_,_,_, .nil,_,e=>by simp at e
 |_,_,_,0,_, .sh r n q,_,e=>by simp at e;exact absurd e (n _)
 |_,_,_,0,_, .ow h r z n q,nd,e=>by
  simp at e;subst e
  rw [List.nodup_cons] at nd
  exact ⟨_,_,rfl,h,r,z,by simp,n,fun ws' xs' r' z'=> .ow upd_same r' z' n (q.t_ nd.1)⟩
 |_,_,_,k+1,_, .sh r n q,nd,e=>by
  obtain ⟨b,ws,h1,h2,h3,h4,h5,h6,h7⟩:=q.setAt (k:=k) nd (by simpa using e)
  exact ⟨b,ws,by simpa using h1,h2,h3,h4,h5,h6,fun ws' xs' r' z'=> .sh r n (h7 ws' xs' r' z')⟩
 |_,_,_,k+1,_, .ow h r z n q,nd,e=>by
  rw [List.nodup_cons] at nd
  obtain ⟨b,ws,h1,h2,h3,h4,h5,h6,h7⟩:=q.setAt (k:=k) nd.2 (by simpa using e)
  exact ⟨b,ws,by simpa using h1,h2,h3,h4,List.mem_cons_of_mem _ h5,h6,fun ws' xs' r' z'=> .ow (by rw [upd_ne (fun g=>nd.1 (by rw [g];exact h5))];exact h) r z n (h7 ws' xs' r' z')⟩
theorem jt.t_{F0 H0:Hp}{b:Addr}{u:HO}{x:Option V}{s:Sl}{fp:List Addr}(h:jt K F0 H0 F H x s fp)(n:b∉fp):jt K F0 H0 F (upd H b u) x s fp:=by
 cases h with
 |no=>exact .no
 |sh r=>exact .sh r
 |bo r=>exact .bo r
 |bg r nn=>exact .bg r nn
 |dk h r f=>exact .dk (by rw [upd_ne (fun e=>n (by simp [e]))];exact h) r f
 |nl h q z f=>
  rw [List.mem_cons,not_or] at n
  exact .nl (by rw [upd_ne (fun e=>n.1 e.symm)];exact h) (q.t_ n.2) z f
 |gn h q=>exact .gn (h.t_ n) q
 |ow o=>exact .ow (o.t_ n)
def wW:Nat→List D→(D→Prop)→Prop
 |_,[],_=>False
 | 0,x::_,P=>P x
 |k+1,_::r,P=>wW k r P
def Fj(x:D)(P:List D→Prop):Prop:=match x with| .tup xs=>P xs|_=>False
def ptK(k:Nat)(P:D→Prop)(xs:List D):Prop:=wW k xs P
def ptG(k:Nat)(P:D→Prop)(x:D):Prop:=Fj x (ptK k P)
def dPt(i k:Nat):DE:=fun ρ P=>iI i ρ (ptG k P)
def ptS(P:D→Prop)(d:D):Prop:=ak9 d∧P d
def aEn(i k:Nat):DE:=fun ρ P=>iI i ρ (ptG k (ptS P))
def ak_(P:D→Prop)(x:D):Prop:=Fj x fun xs=>P (.int xs.length)
def aBC(i:Nat):DE:=fun ρ P=>iI i ρ (ak_ P)
def ala(n:String)(P:D→Prop)(x:D):Prop:=Fj x fun _=>dJ (kitB "tuple" n) (blK P)
def awk(i:Nat)(n:String):DE:=fun ρ P=>iI i ρ (ala n P)
def Fl(x:D)(P:List D→Prop):Prop:=match x with| .lst xs=>P xs|_=>False
def aBD(i k:Nat)(E:DEn)(ρ:Rh)(xs ys:List D):Prop:=E.nx (ρ.set i (.ow (.tup (xs.set k (.lst [])))))
def alb(i k:Nat)(E:DEn)(ρ:Rh)(xs:List D)(d:D):Prop:=Fl d (aBD i k E ρ xs)
def aBE(i k:Nat)(E:DEn)(ρ:Rh)(xs:List D):Prop:=wW k xs (alb i k E ρ xs)
def alc(i k:Nat)(E:DEn)(ρ:Rh)(x:D):Prop:=Fj x (aBE i k E ρ)
def aBF(i k:Nat):DS:=fun E ρ=>iI i ρ (alc i k E ρ)
def ald(i k:Nat)(E:DEn)(ρ:Rh)(xs ys:List D)(y:D):Prop:=ys.length<sizeLine∧E.nx (ρ.set i (.ow (.tup (xs.set k (.lst (ys++[y]))))))
def aBG(i k:Nat)(da:DE)(E:DEn)(ρ:Rh)(xs ys:List D):Prop:=da ρ (ald i k E ρ xs ys)
def ale(i k:Nat)(da:DE)(E:DEn)(ρ:Rh)(xs:List D)(d:D):Prop:=Fl d (aBG i k da E ρ xs)
def aBH(i k:Nat)(da:DE)(E:DEn)(ρ:Rh)(xs:List D):Prop:=wW k xs (ale i k da E ρ xs)
def alf(i k:Nat)(da:DE)(E:DEn)(ρ:Rh)(x:D):Prop:=Fj x (aBH i k da E ρ)
def aBI(i k:Nat)(da:DE):DS:=fun E ρ=>iI i ρ (alf i k da E ρ)
end
section
variable{X:Cx}{F0 H0:Hp}{e a b c o:Expr}{es:List Expr}{pos p apos:Pos}{x:Str}
def aBJ(K:PySem.W.Frag)(F0 H0:Hp)(d:DA):TA:=fun σ H Q=> ∃F ρ fps P,bJ K F0 H0 F H σ ρ fps∧d ρ P∧ ∀xs,P xs→ ∀F' H' vs fp,Ext F H F' H'→gU K F' H' vs xs fp→fp.Nodup→(∀a∈fp,H a=none)→Q vs H'
abbrev LAP(X:Cx)(F0 H0:Hp)(es:List Expr)(d:DA):Prop:=PA X es (aBJ X.K F0 H0 d)
def vQ(P:List D→Prop)(x:D)(r:List D):Prop:=P (x::r)
def JL(dr:DA)(ρ:Rh)(P:List D→Prop)(x:D):Prop:=ak9 x∧dr ρ (vQ P x)
def awl(da:DE)(dr:DA):DA:=fun ρ P=>da ρ (JL dr ρ P)
def ad5(dr:DA)(ρ:Rh)(P:List D→Prop)(x:D):Prop:=Fl x fun _=>dr ρ (vQ P x)
def awm(da:DE)(dr:DA):DA:=fun ρ P=>da ρ (ad5 dr ρ P)
def awn:List D→Bool
 |[]=>false
 | .lst _::_=>true
 |_::r=>awn r
theorem gU.noK{K:PySem.W.Frag}{F H:Hp}: ∀{vs:List V} {ds:List D} {fp:List Addr},gU K F H vs ds fp→awn ds=true→ ∀ks:List Key,vs≠ks.map kV
 |_,_,_, .nil,h,_=>by cases h
 |_,d::_,_, .sh r n q,h,ks=>fun e=>by
  cases ks with
  |nil=>cases e
  |cons k ks=>
   rw [List.map_cons] at e
   cases e
   refine q.noK ?_ ks rfl
   cases d<;>first|exact h|exact absurd rfl (n _)
 |_,_,_, .ow g r z n q,h,ks=>fun e=>by
  cases ks with
  |nil=>cases e
  |cons k ks=>
   rw [List.map_cons] at e
   have:=(List.cons.inj e).1
   cases k<;>cases this
def aBK(P:D→Prop)(xs:List D):Prop:=xs.length≤sizeLine∧awn xs=true∧P (.tup xs)
def aE6(da:DA):DE:=fun ρ P=>da ρ (aBK P)
end
section
variable{E:DEn}{ρ:Rh}{P:D→Prop}{PL:List D→Prop}{x y:D}{xs ys r:List D}{k i:Nat}{da:DE}{dr:DA}{n:String}{w:Tx}{f:List D→Prop}
theorem aEo:dPt i k ρ P=iI i ρ (ptG k P):=id rfl
theorem awo:aEn i k ρ P=iI i ρ (ptG k (ptS P)):=id rfl
theorem aBL:ptG k P (.tup xs)=wW k xs P:=id rfl
theorem awp:ptS P (.str w)=P (.str w):=by
 unfold ptS ak9;simp
theorem awq:wW 0 (x::r) P=P x:=id rfl
theorem awr:wW (k+1) (x::r) P=wW k r P:=id rfl
theorem aws:aBC i ρ P=iI i ρ (ak_ P):=id rfl
theorem apH:ak_ P (.tup xs)=P (.int xs.length):=id rfl
theorem apJ:awk i n ρ P=iI i ρ (ala n P):=id rfl
theorem apL:ala n P (.tup xs)=dJ (kitB "tuple" n) (blK P):=id rfl
theorem awt:aBF i k E ρ=iI i ρ (alc i k E ρ):=id rfl
theorem apM:alc i k E ρ (.tup xs)=wW k xs (alb i k E ρ xs):=id rfl
theorem apO:alb i k E ρ xs (.lst ys)=iw i (.ow (.tup (xs.set k (.lst [])))) ρ E.nx:=id rfl
theorem awu:aBI i k da E ρ=iI i ρ (alf i k da E ρ):=id rfl
theorem apP:alf i k da E ρ (.tup xs)=wW k xs (ale i k da E ρ xs):=id rfl
theorem apQ:ale i k da E ρ xs (.lst ys)=da ρ (ald i k E ρ xs ys):=id rfl
theorem apR:ald i k E ρ xs ys y=(ys.length<sizeLine∧iw i (.ow (.tup (xs.set k (.lst (ys++[y]))))) ρ E.nx):=id rfl
theorem apS:awl da dr ρ PL=da ρ (JL dr ρ PL):=id rfl
theorem alg:JL dr ρ PL (.str w)=dr ρ (vQ PL (.str w)):=by
 unfold JL ak9;simp
theorem alh:vQ PL x r=PL (x::r):=id rfl
theorem apT:awm da dr ρ PL=da ρ (ad5 dr ρ PL):=id rfl
theorem ali:ad5 dr ρ PL (.lst xs)=dr ρ (vQ PL (.lst xs)):=id rfl
end
end DL
namespace DL
open PySem L2 PySem.Spec PyProof.Rows
variable[bG]
def aEp:DR2
 | .str a, .str b,P=>P (.bl (!decide (a<b)))
 |_,_,_=>False
theorem aBM{a b:Tx}{P:D→Prop}:aEp (.str a) (.str b) P=P (.bl (!decide (a<b))):=id rfl
theorem Yr: ∀a b:List Nat,PySem.Spec.ltCps a b=decide (a<b)
 |[],[]=>by simp [PySem.Spec.ltCps]
 |[],_::_=>by simp [PySem.Spec.ltCps]
 |_::_,[]=>by simp [PySem.Spec.ltCps]
 |a::r,b::t=>by
  rw [PySem.Spec.ltCps,Yr r t,Bool.eq_iff_iff]
  simp [List.cons_lt_cons_iff]
end DL
end
section
namespace DL
open PySem L2 PySem.Spec PyProof.Rows
variable[bG]
section
variable{K:PySem.W.Frag}{F H:Hp}
def Uj(i:Nat)(ρ:Rh)(P:List D→Prop):Prop:=match ρ[i]? with|some (.nl x)=>P x|_=>False
end
section
variable{X:Cx}{F0 H0:Hp}{e a b c o tg:Expr}{es:List Expr}{pos p apos:Pos}{x:Str}
def aat(i:Nat)(E:DEn)(ρ:Rh)(xs:List D):Prop:=xs.length≤sizeLine∧iw i (.nl xs) ρ E.nx
def awv(i:Nat)(da:DA):DS:=fun E ρ=>da ρ (aat i E ρ)
def dPn(i k:Nat):DE:=fun ρ P=>Uj i ρ (ptK k P)
def aBN(i k:Nat)(E:DEn)(ρ:Rh)(xs ys:List D):Prop:=iw i (.nl (xs.set k (.lst []))) ρ E.nx
def alj(i k:Nat)(E:DEn)(ρ:Rh)(xs:List D)(d:D):Prop:=Fl d (aBN i k E ρ xs)
def alk(i k:Nat)(E:DEn)(ρ:Rh)(xs:List D):Prop:=wW k xs (alj i k E ρ xs)
def aww(i k:Nat):DS:=fun E ρ=>Uj i ρ (alk i k E ρ)
def alm(i k:Nat)(E:DEn)(ρ:Rh)(xs ys:List D)(y:D):Prop:=ys.length<sizeLine∧iw i (.nl (xs.set k (.lst (ys++[y])))) ρ E.nx
def aBO(i k:Nat)(da:DE)(E:DEn)(ρ:Rh)(xs ys:List D):Prop:=da ρ (alm i k E ρ xs ys)
def aln(i k:Nat)(da:DE)(E:DEn)(ρ:Rh)(xs:List D)(d:D):Prop:=Fl d (aBO i k da E ρ xs)
def alo(i k:Nat)(da:DE)(E:DEn)(ρ:Rh)(xs:List D):Prop:=wW k xs (aln i k da E ρ xs)
def awx(i k:Nat)(da:DE):DS:=fun E ρ=>Uj i ρ (alo i k da E ρ)
def au6(i:Nat)(E:DEn)(ρ:Rh)(x:D):Prop:=match x with| .lst xs=> ∃ys y,xs=ys++[y]∧iw i (.ow (.lst ys)) ρ E.nx|_=>False
def aBP(i:Nat):DS:=fun E ρ=>iI i ρ (au6 i E ρ)
def aE7:List D→(D→Prop)→Prop
 |[.lst xs],P=> ∃ns:List Int,xs=ns.map D.int∧0<ns.length∧ ∀m,m∈ns→(∀y,y∈ns→m≤y)→P (.int m)
 |_,_=>False
def alp:List D→(D→Prop)→Prop
 |[.lst xs],P=> ∃ns:List Int,xs=ns.map D.int∧0<ns.length∧ ∀m,m∈ns→(∀y,y∈ns→y≤m)→P (.int m)
 |_,_=>False
theorem awy(hc:X.calm=true):Mj X (.builtin "max") alp:=⟨_,fun F H vs xs P Q e r d k=>by
 unfold alp at d
 split at d
 ·obtain ⟨ns,rfl,h0,d⟩:=d
  cases r with
  |cons r1 rr=>
   cases rr
   obtain ⟨l,ws,rfl,s,r2,z⟩:=r1.lst e
   rw [r2.ints] at s
   exact ⟨l,ns,rfl,s,h0,fun m hm hle=>k _ (d m hm hle) F H _ (.refl e) (.int _)⟩
 ·exact d.elim,cr_max hc⟩
end
section
variable{E:DEn}{ρ:Rh}{P:D→Prop}{PN:List D→Prop}{x y:D}{xs ys r:List D}{k i:Nat}{da:DE}{db:DA}{s:Sl}
theorem apU:Uj 0 (.nl xs::ρ) PN=PN xs:=id rfl
theorem apV:Uj (i+1) (s::ρ) PN=Uj i ρ PN:=id rfl
theorem apW:awv i db E ρ=db ρ (aat i E ρ):=id rfl
theorem alq:aat i E ρ xs=(xs.length≤sizeLine∧iw i (.nl xs) ρ E.nx):=id rfl
theorem aEq:dPn i k ρ P=Uj i ρ (ptK k P):=id rfl
theorem aBQ:ptK k P xs=wW k xs P:=id rfl
theorem apY:aww i k E ρ=Uj i ρ (alk i k E ρ):=id rfl
theorem apZ:alk i k E ρ xs=wW k xs (alj i k E ρ xs):=id rfl
theorem ap0:alj i k E ρ xs (.lst ys)=iw i (.nl (xs.set k (.lst []))) ρ E.nx:=id rfl
theorem ap1:awx i k da E ρ=Uj i ρ (alo i k da E ρ):=id rfl
theorem ap2:alo i k da E ρ xs=wW k xs (aln i k da E ρ xs):=id rfl
theorem ap3:aln i k da E ρ xs (.lst ys)=da ρ (alm i k E ρ xs ys):=id rfl
theorem ap4:alm i k E ρ xs ys y=(ys.length<sizeLine∧iw i (.nl (xs.set k (.lst (ys++[y])))) ρ E.nx):=id rfl
theorem awz:aBP i E ρ=iI i ρ (au6 i E ρ):=id rfl
end
end DL
end
section
namespace DL
open PySem L2 PySem.Spec PyProof.Rows
variable[bG]
def ExV(cls:Value)(d:Option Addr)(a:Addr):HO:= .ext fun h=> ∃(oe:Obj) (vs:Array Value),h.get? a=some oe∧Zc cls d oe∧oe.data= .fields vs
section
variable{X:Cx}{pins:List (Addr×Obj)}{σ:L2.St}{H:Hp}{s:Shared}{a:Addr}{cls:Value}{d:Option Addr}{oe:Obj}{vs:Array Value}
end
def aE8(K:PySem.W.Frag)(c:Value)(i:Nat)(ts:Addr→Value→Option Addr→TS)(Wout:WX)(D:Ends):WX:=fun cls d σ H=>
 ∃b,PySem.W.exmOne K cls c=some b∧(b=true→ ∀a,H a=none→ts a cls d { nx:=fun σ' H'=>H' a=none→D.nx (σ'.set i none) (upd H' a (ExV cls d a)),rt:=D.rt } (σ.set i (some (.ref a))) H)∧
  (b=false→Wout cls d σ H)
section
variable{X:Cx}{x n:Str}{c:Value}{i:Nat}{body suite:List Stmt}{b0:Stmt}{np pos pos':Pos}{tb:WX→TS}{ts:Addr→Value→Option Addr→TS}{Wout:WX}
end
end DL
end
section
namespace DL
open PySem L2
variable[bG]
abbrev XG:=Option (List (Str×D))
abbrev XC:=Addr→XG→Prop
def noX:XC:=fun _ _=>False
def ahN(K:PySem.W.Frag)(F H:Hp)(cls:Value)(d:Option Addr)(C:Addr):XG→Prop
 |none=>cls= .ref C∧d=none
 |some gs=>cls= .ref C∧ ∃dd fs,d=some dd∧F dd=some (.xd fs)∧jN K F fs gs
abbrev jB:=List D→(D→Prop)→XC→Prop
def uv(K:PySem.W.Frag)(ms:List Bool)(S:jB):Sp:=fun vs H Q E=> ∃F ds P Xc,(Same F H∧pK F H)∧sX K F H ms vs ds∧S ds P Xc∧(∀x,P x→ ∀F' H' v,Ext F H F' H'→Rep K F' v x→Q v H')∧
 ∀C g,Xc C g→ ∀F' H' cls d,Ext F H F' H'→ahN K F' H' cls d C g→E cls d H'
def ad6(K:PySem.W.Frag)(F0 H0:Hp)(W:WX)(Xc:XC):Prop:= ∀C g,Xc C g→ ∀F' H' cls d σ,Ext F0 H0 F' H'→ahN K F' H' cls d C g→W cls d σ H'
theorem alr{K:PySem.W.Frag}{F0 H0:Hp}{W:WX}:ad6 K F0 H0 W noX:=fun _ _ h=>h.elim
section
variable{P:Program}{w:World}{K:PySem.W.Frag}{mg:Str→Option Value}{base:Heap}
theorem awA{x qual:Str}{st:Stmt}{f:Addr}{fd:FuncData}{N ps:List Str}{k:Nat}{ms:List Bool}{S:jB}{d:XC→DS}(F:Fun K x qual st f fd)(Sc:FnScope N ps (defScope st))(hlen: ∀ds P Xc,S ds P Xc→ds.length=ps.length)
  (body: ∀(cdv:Value) (A:Around) (outer:List Env) (s:Shared) (H:Hp) (E:XK) (F0:Hp) (Xc:XC),Room k (A.deeper (PyProof.Rows.envOfC qual (defScope st) s.heap.objs.size f cdv))→ad6 K F0 H (fun cls d _ H=>E cls d H) Xc→
   LSs (cxOf (L2.CX P w) P w K mg base N qual (defScope st) f cdv A outer s H E) F0 H (defBody st) (d Xc))
  (sem: ∀ds Q Xc,S ds Q Xc→d Xc { nx:=fun _=>Q .non,rt:=Q } (lU N ms ds)):FnOk P w K mg base (L2.CX P w) (k+1) f fd ps (uv K ms S):=by
 refine F.okX Sc (fun vs H Q E ⟨F,ds,P,Xc,e,r,h,_⟩=>by rw [r.length];exact hlen _ _ _ h) fun cdv A outer s H vs Q E hr ⟨F0,ds,P,Xc,e,r,h,kk,ko⟩=> ?_
 refine ⟨_,body cdv A outer s H E F0 Xc hr fun C g hx F' H' cls d _ e' r'=>ko C g hx F' H' cls d e' r',F0,lU N ms ds,(ds.map fun _=>([]:List Addr))++List.replicate (N.length - ds.length) [],{ nx:=fun _=>P .non,rt:=P },⟨.refl e.1, ?_, ?_,e.2⟩,sem ds P Xc h,⟨?_, ?_, ?_, ?_, ?_, ?_⟩⟩
 ·unfold L2.start lU
  rw [r.length]
  exact rF _ r
 ·exact ⟨by rw [rE];exact List.nodup_nil,fun a ha=>by rw [rE] at ha;cases ha⟩
 ·exact fun F' H' σ' ρ' fps' s R q=>kk _ q F' H' _ R.x .non
 ·exact fun F' H' σ' ρ' fps' s R q=>False.elim q
 ·exact fun F' H' σ' ρ' fps' s R q=>False.elim q
 ·exact fun F' H' v x s e' r' q=>kk _ q F' H' v e' r'
 ·exact fun F' H' v x fp s e' r' n1 n2 q=>False.elim q
 ·exact fun F' H' σ' ρ' fps' v t fp s R r n1 n2 q=>False.elim q
end
structure FnX(P:Program)(w:World)(K:PySem.W.Frag)(mg:Str→Option Value)(base:Heap)(x:Str)(k:Nat)(ms:List Bool)(S:jB):Prop where
 ex: ∃f fd ps,FnOk P w K mg base (L2.CX P w) k f fd ps (uv K ms S)∧mg x=some (.ref f)∧PySem.W.keepIn K (.ref f)=true∧Binds K fd ps []
abbrev agB:=Addr→jB→Prop
structure aDI(P:Program)(w:World)(K:PySem.W.Frag)(mg:Str→Option Value)(base:Heap)(k:Nat)(m:Str)(ms:List Bool)(C:Addr)(S:jB):Prop where
 cl:Cls K C
 ex: ∃f fd ps,Meth K C m f∧FnOk P w K mg base (L2.CX P w) k f fd ps (uv K (false::ms) S)∧Binds K fd ps []
section
variable{X:Cx}{F0 H0:Hp}{e a b c o:Expr}{es:List Expr}{pos p apos:Pos}{x m:Str}
def aEr(K:PySem.W.Frag)(F0 H0:Hp)(W:WX)(d:XC→DE):TE:=fun σ H Q=> ∃F ρ fps P Xc,bJ K F0 H0 F H σ ρ fps∧d Xc ρ P∧(∀x,P x→ ∀F' H' v,Ext F H F' H'→Rep K F' v x→Q v H')∧
 ∀C g,Xc C g→ ∀F' H' cls d,Ext F H F' H'→ahN K F' H' cls d C g→W cls d σ H'
def LEX(X:Cx)(F0 H0:Hp)(e:Expr)(d:XC→DE):Prop:= ∀(W:WX) (pn:List (Addr×Obj)) (xe:Value→Shared→Prop),Takes (X.tr pn xe) W→PE (X.tr pn xe) e (aEr X.K F0 H0 W d)
theorem JM{d:XC→DE}{W:WX}{Xc:XC}(h:LEX X F0 H0 e d)(tk:Takes X W)(hE:ad6 X.K F0 H0 W Xc):LE X F0 H0 e (d Xc):=
 peW (h W X.pn X.xe tk) fun σ H Q ⟨F,ρ,fps,P,R,q,k⟩=>⟨F,ρ,fps,P,Xc,R,q,k,fun C g hx F' H' cls d e r=>hE C g hx F' H' cls d σ (R.x.trans e) r⟩
def o5(S:jB)(da:DA)(Xc:XC):DE:=fun ρ P=>da ρ fun xs=>S xs P Xc
theorem pP{k:Nat}{ms:List Bool}{S:jB}{da:DA}(h:FnX X.prog X.w X.K X.mg X.base x k ms S)(hr:Room k X.A)(hg:Gl X x)
  (ha: ∀pn xe,LAM (X.tr pn xe) F0 H0 ms (e::es) da) (hdb:(x==("__debug__":Str))=false:=by decide) (he:starEach (e::es) X.env=(false,eval e X.env)::starEach es X.env:=by rfl) (hpl:(backTo pos (starEach es X.env)).any (·.1)=false:=by rfl):
  LEX X F0 H0 (.Call (.Name x p) (e::es) [] pos) (o5 S da):=by
 intro W pn xe tk
 obtain ⟨f,fd,ps,F,hm,hk,hb⟩:=h
 exact peW (pe_callS (X:=X.tr pn xe) F hr hg hm hk hb (passAt tk) (ha pn xe) hdb he hpl) fun σ H Q ⟨F,ρ,fps,P,Xc,R,q,k,ko⟩=>⟨F,ρ,fps,_,R,q,fun xs hx F1 H1 vs e1 r1=>
  ⟨F1,xs,P,Xc,(R.ext e1).sm,r1,hx,fun z pz F2 H2 u e2 r2=>k z pz F2 H2 u (e1.trans e2) r2,fun C g hx F2 H2 cls d e2 r2=>ko C g hx F2 H2 cls d (e1.trans e2) r2⟩⟩
def als(M:agB)(m:Str)(da:DE)(dr:DA)(Xc:XC):DE:=fun ρ P=>da ρ fun x=>match x with| .obj C gs=>gs.lookup m=none∧ ∃S,M C S∧dr ρ fun xs=>S (.obj C gs::xs) P Xc|_=>False
def alu(K:PySem.W.Frag)(F0 H0:Hp)(W:WX)(d:XC→DS):TS:=fun D σ H=> ∃F ρ fps E Xc,bJ K F0 H0 F H σ ρ fps∧d Xc E ρ∧abq K F0 H0 F E D∧ ∀C g,Xc C g→ ∀F' H' cls d,Ext F H F' H'→ahN K F' H' cls d C g→W cls d σ H'
def LSX(X:Cx)(F0 H0:Hp)(st:Stmt)(d:XC→DS):Prop:= ∀(W:WX) (pn:List (Addr×Obj)) (xe:Value→Shared→Prop),Takes (X.tr pn xe) W→PS (X.tr pn xe) st (alu X.K F0 H0 W d)
theorem alv{d:XC→DE}(h:LEX X F0 H0 e d)(hs:swapsWith e none pos.line X.env=pure false:=by rfl):LSX X F0 H0 (.Expr e pos) (fun Xc=>aiY (d Xc)):=fun W pn xe tk=>
 psW (ps_expr (X:=X.tr pn xe) (h W pn xe tk) hs) fun D σ H ⟨F,ρ,fps,E,Xc,R,q,k,ko⟩=>⟨F,ρ,fps,_,Xc,R,q,fun x hx F1 H1 v e1 r1=>k.nx F1 H1 σ ρ fps e1.f (R.ext e1) hx,ko⟩
theorem ap5{tg:Expr}{g:TG}{d:XC→DE}{dg:DG}{is:List Nat}(h: ∀pn xe te,PE (X.tr pn xe) e te→PS (X.tr pn xe) (.Assign [tg] e pos) (tAsg te g))(hg:CK X.K g dg is)(he:LEX X F0 H0 e d):LSX X F0 H0 (.Assign [tg] e pos) (fun Xc=>bW (d Xc) dg):=fun W pn xe tk=>
 psW (h pn xe _ (he W pn xe tk)) fun D σ H ⟨F,ρ,fps,E,Xc,R,q,k,ko⟩=>⟨F,ρ,fps,_,Xc,R,q,fun x hx F1 H1 v e1 r1=>hg F0 H0 F1 H1 σ ρ fps v x _ _ (R.ext e1) r1 hx fun ρ' p σ' fps' _ R'=>k.nx F1 H1 σ' ρ' fps' e1.f R' p,ko⟩
structure aBR(K:PySem.W.Frag)(mg:Str→Option Value)(x:Str)(C:Addr):Prop where
 mg:mg x=some (.ref C)
 ex:PySem.W.excIn K C [.type "ValueError", .type "Exception", .type "BaseException", .type "object"] "ValueError.__new__"=true
 kp:PySem.W.keepIn K (.ref C)=true
 sb:PySem.W.subIn K (.ref C) (.type "BaseException")=some true
 ty:PySem.W.typeIn K (.ref C)=some (.type "type")
def aau(C:Addr)(Xc:XC):DS:=fun _ _=>Xc C none
theorem aco{C:Addr}{msg:Str}{j:Nat}{p2:Pos}{W:WX}{Xc:XC}(T:aBR X.K X.mg x C)(hc:X.calm=true)(tk:Takes X W)(hE:ad6 X.K F0 H0 W Xc)(hg:Gl X x)(hdb:(x==("__debug__":Str))=false:=by decide):
  LS X F0 H0 (.Raise (some (.Call (.Name x p) [.Constant (.str msg) j p2] [] pos)) none apos) (aau C Xc):=
 psW (ps_raise hc tk (pmk_own PySem.F.excBase_ValueError T.ex T.mg T.kp (raises_own T.sb T.ty) hg hdb)) fun D σ H ⟨F,ρ,fps,E,R,q,k⟩=>hE C none q F H _ _ σ R.x ⟨rfl,rfl⟩
end
end DL
end
section
namespace DL
open PySem L2
variable[bG]
def JN(K:PySem.W.Frag)(c:Value)(Cs:List Addr):Prop:= ∀C∈Cs,PySem.W.exmOne K (.ref C) c=some true
section
variable{X:Cx}{F0 H0:Hp}{e a b c o:Expr}{es:List Expr}{pos p pos' np apos:Pos}{x m n:Str}
def dhN(i:Nat)(E:DEn):DEn:={ nx:=fun r=>E.nx (r.set i .no),rt:=E.rt,bk:=fun r=>E.bk (r.set i .no),ct:=fun r=>E.ct (r.set i .no),rn:=E.rn,rg:=fun t r=>E.rg t (r.set i .no) }
def alw(Cs:List Addr)(i:Nat)(dst:XC→DS)(dh:Addr→Addr→DS):DS:=fun E ρ=>dst (fun C g=>C∈Cs∧g=none∧ ∀a,dh a C (dhN i E) (ρ.set i (.sh (.fn a)))) E ρ
theorem ap6{st b0:Stmt}{suite:List Stmt}{cl:Value}{Cs:List Addr}{i:Nat}{dst:XC→DS}{dh:Addr→Addr→DS}(hs:X.stack=X.env::X.outer)(hf:X.env.frame=some X.env.locals)(hN:X.N.Nodup)(hi:X.N[i]? =some n)(hln:X.env.kindOf n=some .local)
  (hc:Names X x cl) (hC:JN X.K cl Cs) (h:LSX X F0 H0 st dst)
  (hsu: ∀(a C:Addr) (oe:Obj) (pn:List (Addr×Obj)),C∈Cs→Zc (.ref C) none oe→(∃vs,oe.data= .fields vs)→LSs (X.suite a ((a,oe)::pn)) F0 H0 (b0::suite) (dh a C)):
  LS X F0 H0 (.Try [st] [.ExceptHandler (some (.Name x np)) (some n) (b0::suite) pos'] [] [] pos) (alw Cs i dst dh):=
 psW (ps_try_as (Wout:=fun _ _ _ _=>False) (tb:=fun W=>alu X.K F0 H0 W dst) (ts:=fun a cls d=>fun D σ H=> ∃C,C∈Cs∧cls= .ref C∧d=none∧adR X.K F0 H0 (dh a C) D σ H) hs hf hN hi hln hc (by
   intro u s' ⟨_,_,_,_,_,_,_,_,_,_,_,_,_,_,_,_,z⟩
   exact z.elim) (fun W pn xe tk _=>pss_one (h W pn xe tk)) (fun a oe cls d pn hz hv=>⟨fun pins s σ H D I ⟨C,hm,e1,e2,q⟩=>by
   subst e1 e2
   exact (hsu a C oe pn hm hz hv).run pins s σ H D I q⟩)) fun D σ H ⟨F,ρ,fps,E,R,q,k⟩=>⟨F,ρ,fps,E,_,R,q,k,fun C g ⟨hm,hg,hx⟩ F' H' cls d e r=>by
  subst hg
  obtain ⟨r1,r2⟩:=r
  subst r1 r2
  refine ⟨true,hC C hm,fun _ a ha=>⟨C,hm,rfl,rfl,F',_,fps.set i [],_,(R.ext e).set (.fn a) i,hx a,⟨?_, ?_, ?_, ?_, ?_, ?_⟩⟩,fun z=>absurd z (by decide)⟩
  ·exact fun F2 H2 σ2 ρ2 fps2 s R2 q2=>k.nx F2 H2 _ _ (fps2.set i []) (e.f.trans s) ⟨R2.x,R2.s.set .no i,R2.p.set_nil i,R2.b⟩ q2
  ·exact fun F2 H2 σ2 ρ2 fps2 s R2 q2=>k.bk F2 H2 _ _ (fps2.set i []) (e.f.trans s) ⟨R2.x,R2.s.set .no i,R2.p.set_nil i,R2.b⟩ q2
  ·exact fun F2 H2 σ2 ρ2 fps2 s R2 q2=>k.ct F2 H2 _ _ (fps2.set i []) (e.f.trans s) ⟨R2.x,R2.s.set .no i,R2.p.set_nil i,R2.b⟩ q2
  ·exact fun F2 H2 v x s=>k.rt F2 H2 v x (e.f.trans s)
  ·exact fun F2 H2 v x fp s=>k.rn F2 H2 v x fp (e.f.trans s)
  ·exact fun F2 H2 σ2 ρ2 fps2 v t fp s R2 r2 n1 n2 q2=>k.rg F2 H2 (σ2.set i none) _ (fps2.set i []) v t fp (e.f.trans s) ⟨R2.x,R2.s.set .no i,R2.p.set_nil i,R2.b⟩ r2 n1 (fun a ha=>⟨(n2 a ha).1,fun hm=>(n2 a ha).2 ((gH fps2 i).subset hm)⟩) q2⟩
def zV:Rh→Prop
 |[]=>True
 | .no::r=>zV r
 | .sh _::r=>zV r
 | .bo _::r=>zV r
 |_::_=>False
theorem zV.fps{K:PySem.W.Frag}{F0 H0 F H:Hp}: ∀{σ:L2.St} {ρ:Rh} {fps:List (List Addr)},bB K F0 H0 F H σ ρ fps→zV ρ→fps.flatten=[]
 |_,_,_, .nil,_=>rfl
 |_,_,_, .cons q r,h=>by
  cases q with
  |no=>
   rw [List.flatten_cons]
   exact zV.fps r h
  |sh=>
   rw [List.flatten_cons]
   exact zV.fps r h
  |bo=>
   rw [List.flatten_cons]
   exact zV.fps r h
  |ow=>exact h.elim
  |dk=>exact h.elim
  |nl=>exact h.elim
  |gn=>exact h.elim
  |bg=>exact h.elim
def aE9(Cs:List Addr)(i j:Nat)(dst:XC→DS)(d0:DS)(dX:Addr→Addr→DS):DS:=fun E ρ=>zV ρ∧(i<ρ.length∧
 dst (fun C g=>C∈Cs∧g=none∧ ∀a,dX a C { nx:=fun _=>False,rt:=E.rt,rn:=E.rn } (((ρ.set i (.sh (.fn a))).set j (.sh (.fn a))).set i .no)) { E with nx:=fun ρ'=>d0 E ρ' } ρ)
end
end DL
end
section
namespace DL
open PySem L2
variable[bG]
abbrev acp:=List (Addr×String×Bool)
def ap7(K:PySem.W.Frag)(kin:Kin):Prop:= ∀p∈kin,ExcC K p.1∧PySem.W.kitOne K (.ref p.1) (.ref p.2.1)=some p.2.2
def ap8(K:PySem.W.Frag)(kb:acp):Prop:= ∀p∈kb,ExcC K p.1∧PySem.W.kitOne K (.ref p.1) (.type p.2.1)=some p.2.2
def aFt(K:PySem.W.Frag):List V→Hp→VK→Prop:=fun xs H Q=> ∃(a D:Addr) (c:V) (cv:Value) (b:Bool),xs=[.ref a,c]∧H a=some (ExV (.ref D) none a)∧ExcC K D∧ClsV c cv∧PySem.W.kitOne K (.ref D) cv=some b∧Q (.bl b) H
def aE_(K:PySem.W.Frag):List V→Hp→VK→Prop:=fun xs H Q=> ∃(a D tp:Addr) (cs:List V) (us:List Value) (b:Bool),xs=[.ref a, .ref tp]∧H a=some (ExV (.ref D) none a)∧ExcC K D∧H tp=some (.tup cs)∧Paired ClsV cs us∧PySem.W.kitAny K (.ref D) us=some b∧Q (.bl b) H
section
variable{X:Cx}{pins:List (Addr×Obj)}{σ:L2.St}{H:Hp}{s:Shared}
end
def Uk(kin:Kin)(kb:acp)(a C:Addr)(P:D→Prop)(x y:D):Prop:=x= .fn a∧(match y with| .fn C'=> ∃b,(C,C',b)∈kin∧P (.bl b)| .ty n=> ∃b,(C,n,b)∈kb∧P (.bl b)|_=>False)
def alx(kin:Kin)(kb:acp)(a C:Addr)(db:DE)(ρ:Rh)(P:D→Prop)(x:D):Prop:=db ρ (Uk kin kb a C P x)
def ap9(kin:Kin)(kb:acp)(a C:Addr)(da db:DE):DE:=fun ρ P=>da ρ (alx kin kb a C db ρ P)
def agC(kin:Kin)(a C:Addr)(Cs:List Addr)(P:D→Prop)(x:D):Prop:=x= .fn a∧ ∃f:Addr→Bool,(∀C'∈Cs,(C,C',f C')∈kin)∧P (.bl (Cs.any f))
def aBS(kin:Kin)(a C:Addr)(Cs:List Addr)(da:DE):DE:=fun ρ P=>da ρ (agC kin a C Cs P)
section
variable{X:Cx}{F0 H0:Hp}{e t:Expr}{pos p:Pos}{x:Str}{kin:Kin}{kb:acp}{a C:Addr}{da db:DE}
theorem ap_{K:PySem.W.Frag}{F:Hp}{v w:V}{P:D→Prop}{x y:D}(hk:ap7 K kin)(hb:ap8 K kb)(r1:Rep K F v x)(r2:Rep K F w y)(h:Uk kin kb a C P x y):v= .ref a∧ ∃cv b,ExcC K C∧ClsV w cv∧PySem.W.kitOne K (.ref C) cv=some b∧P (.bl b):=by
 obtain ⟨h1,h2⟩:=h
 subst h1
 cases r1
 refine ⟨rfl, ?_⟩
 cases y with
 |fn C'=>
  cases r2
  obtain ⟨b,hm,hp⟩:=h2
  exact ⟨_,b,(hk _ hm).1, .own _,(hk _ hm).2,hp⟩
 |ty n=>
  cases r2
  obtain ⟨b,hm,hp⟩:=h2
  exact ⟨_,b,(hb _ hm).1, .ty _,(hb _ hm).2,hp⟩
 |_=>exact h2.elim
theorem aly{oe:Obj}{pn:List (Addr×Obj)}(hk:ap7 X.K kin)(hkb:ap8 X.K kb)(hz:Zc (.ref C) none oe)(hvs: ∃vs,oe.data= .fields vs)(hg:Gl (X.suite a ((a,oe)::pn)) x)(hm:X.mg x=none)(hv:bootBuiltins x=some (.builtin "isinstance"))
  (ha:LE (X.suite a ((a,oe)::pn)) F0 H0 e da) (hb:LE (X.suite a ((a,oe)::pn)) F0 H0 t db) (hC:ExcC X.K C) (hn:x≠"__name__":=by decide) (hdb:(x==("__debug__":Str))=false:=by decide)
  (he:starEach [e,t] X.env=(false,eval e X.env)::starEach [t] X.env:=by rfl) (he2:starEach [t] X.env=(false,eval t X.env)::starEach [] X.env:=by rfl) (hpl:(backTo pos (starEach [t] X.env)).any (·.1)=false:=by rfl):
  LE (X.suite a ((a,oe)::pn)) F0 H0 (.Call (.Name x p) [e,t] [] pos) (ap9 kin kb a C da db):=
 peW (pe_callB (X:=X.suite a ((a,oe)::pn)) (call_isE hC hz hvs) hg hm hv (pa_cons ha (pa_cons hb pa_nil he2) he) hn hdb he hpl) fun σ H Q ⟨F,ρ,fps,P,R,q,k⟩=>⟨F,ρ,fps,_,R,q,fun z hz F1 H1 v e1 r1=>⟨F1,ρ,fps,_,R.ext e1,hz,fun y hy F2 H2 w e2 r2=>by
  obtain ⟨rfl,cv,b,c1,c2,c3,hp⟩:=ap_ hk hkb (r1.mono e2.f) r2 hy
  exact ⟨w,cv,b,rfl,fun u hu=>c2.eq hu,c3,k _ hp F2 H2 _ (e1.trans e2) (.bl _)⟩⟩⟩
end
section
variable{ρ:Rh}{P:D→Prop}{E:DEn}{x y:D}{xs:List D}{kin:Kin}{kb:acp}{a C C':Addr}{da db:DE}{dr:DA}{n m:String}{Cs:List Addr}{Xc:XC}{S:jB}{M:agB}{gs:List (Str×D)}{d0:DS}{dst:XC→DS}{dX:Addr→Addr→DS}{i j:Nat}{mm:Str}
def apX(S:jB)(xs:List D)(P:D→Prop)(Xc:XC):Prop:=S xs P Xc
def alz(S:jB)(P:D→Prop)(Xc:XC)(xs:List D):Prop:=apX S xs P Xc
theorem aqa:o5 S dr Xc ρ P=dr ρ (alz S P Xc):=id rfl
theorem alA:alz S P Xc xs=apX S xs P Xc:=id rfl
def agD(M:agB)(m:Str)(C:Addr)(gs:List (Str×D))(dr:DA)(ρ:Rh)(P:D→Prop)(Xc:XC):Prop:=gs.lookup m=none∧ ∃S,M C S∧dr ρ fun xs=>apX S (.obj C gs::xs) P Xc
def alB(M:agB)(m:Str)(dr:DA)(ρ:Rh)(P:D→Prop)(Xc:XC)(x:D):Prop:=match x with| .obj C gs=>agD M m C gs dr ρ P Xc|_=>False
theorem agE:als M mm da dr Xc ρ P=da ρ (alB M mm dr ρ P Xc):=by
 unfold als
 congr 1
theorem acq:alB M mm dr ρ P Xc (.obj C gs)=agD M mm C gs dr ρ P Xc:=id rfl
def aqb(S:jB)(x:D)(P:D→Prop)(Xc:XC)(xs:List D):Prop:=apX S (x::xs) P Xc
theorem Ys:aqb S x P Xc xs=apX S (x::xs) P Xc:=id rfl
theorem aqc:aau C Xc E ρ=Xc C none:=id rfl
theorem aBT:ap9 kin kb a C da db ρ P=da ρ (alx kin kb a C db ρ P):=id rfl
theorem aqd:alx kin kb a C db ρ P x=db ρ (Uk kin kb a C P x):=id rfl
theorem alC:Uk kin kb a C P (.fn a) (.fn C')= ∃b,(C,C',b)∈kin∧P (.bl b):=by simp [Uk]
theorem alD:Uk kin kb a C P (.fn a) (.ty n)= ∃b,(C,n,b)∈kb∧P (.bl b):=by simp [Uk]
theorem awB:aBS kin a C Cs da ρ P=da ρ (agC kin a C Cs P):=id rfl
theorem aqe:agC kin a C Cs P (.fn a)= ∃f:Addr→Bool,(∀C'∈Cs,(C,C',f C')∈kin)∧P (.bl (Cs.any f)):=by simp [agC]
def aBU(Cs:List Addr)(i:Nat)(dh:Addr→Addr→DS)(E:DEn)(ρ:Rh):XC:=fun C g=>C∈Cs∧g=none∧ ∀a,dh a C (dhN i E) (ρ.set i (.sh (.fn a)))
theorem awC{dh:Addr→Addr→DS}:alw Cs i dst dh E ρ=dst (aBU Cs i dh E ρ) E ρ:=id rfl
def aFa(Cs:List Addr)(i j:Nat)(dX:Addr→Addr→DS)(E:DEn)(ρ:Rh):XC:=fun C g=>C∈Cs∧g=none∧ ∀a,dX a C { nx:=fun _=>False,rt:=E.rt,rn:=E.rn } (((ρ.set i (.sh (.fn a))).set j (.sh (.fn a))).set i .no)
end
theorem awD{K:PySem.W.Frag}{C:Addr}{b:Bool}(h:PySem.W.subIn K (.ref C) (.type "ValueError")=some b):PySem.W.kitOne K (.ref C) (.type "ValueError")=some b:=by
 unfold PySem.W.kitOne
 rw [if_neg (by simp)]
 show (if PySem.W.kitMeta "ValueError"=true then PySem.W.subIn K (.ref C) (.type "ValueError") else none)=some b
 rw [if_pos (by decide+kernel)]
 exact h
end DL
end
section
namespace DL
open PySem L2
variable[bG]
structure aDJ(P:Program)(w:World)(K:PySem.W.Frag)(mg:Str→Option Value)(base:Heap)(k:Nat)(m:Str)(ms:List Bool)(C:Addr)(S:bK):Prop where
 cl:Cls K C
 ex: ∃f fd ps,Meth K C m f∧FnOk P w K mg base CX0 k f fd ps (ajg K (false::ms) S)∧Binds K fd ps []
section
variable{X:Cx}{F0 H0:Hp}{e o:Expr}{es:List Expr}{pos p apos:Pos}{m:Str}{k:Nat}{M:rD}{ms:List Bool}
end
end DL
end
section
namespace DL
open PySem L2 PySem.Spec
variable[bG]
def aBV(K:PySem.W.Frag)(S1 S2 S3:Src):It:=
 ⟨fun i H=> ∃n1 n2 n3,S1.len K H n1∧S2.len K H n2∧S3.len K H n3∧i<n1∧i<n2∧i<n3,
  fun i H v H'=> ∃T x y u,v= .ref T∧H T=none∧H'=upd H T (.tup [x,y,u])∧S1.has K H i x∧S2.has K H i y∧S3.has K H i u,
  fun i H=> ∃n1 n2 n3,S1.len K H n1∧S2.len K H n2∧S3.len K H n3∧i≤n1∧i≤n2∧i≤n3∧(i=n1∨i=n2∨i=n3)⟩
structure aFu(z TI TO i1 i2 i3:Addr):Prop where
 a1:TI≠z
 a2:TO≠z
 a3:TI≠TO
 b1:TI≠i1
 b2:TI≠i2
 b3:TI≠i3
 c1:z≠i1
 c2:z≠i2
 c3:z≠i3
 d1:TO≠i1
 d2:TO≠i2
 d3:TO≠i3
 e1:i1≠i2
 e2:i1≠i3
 e3:i2≠i3
def aEs(K:PySem.W.Frag)(ta:TA):TI:=fun σ H R=>ta σ H fun vs H1=> ∃x y u,vs=[x,y,u]∧((∃z,x= .str z)∨ ∃a xs,x= .ref a∧SqL K H1 a xs)∧((∃z,y= .str z)∨ ∃a xs,y= .ref a∧SqL K H1 a xs)∧((∃z,u= .str z)∨ ∃a xs,u= .ref a∧SqL K H1 a xs)∧
 ∀S1 S2 S3,xJ K H1 x S1→xJ K H1 y S2→xJ K H1 u S3→R (aBV K S1 S2 S3) H1
def alE(xs ys us:List D):List D:=(xs.zip (ys.zip us)).map fun p=> .tup [p.1,p.2.1,p.2.2]
def aBW(da:DA):DI:=fun ρ P=>da ρ fun vs=>match vs with
 |[x,y,u]=>(match dW x,dW y,dW u with|some xs,some ys,some us=>P (alE xs ys us)|_,_,_=>False)
 |_=>False
def au7(P:List D→Prop)(vs:List D):Prop:=match vs with
 |[x,y,u]=>(match dW x,dW y,dW u with|some xs,some ys,some us=>P (alE xs ys us)|_,_,_=>False)
 |_=>False
theorem awE{da:DA}{ρ:Rh}{P:List D→Prop}:aBW da ρ P=da ρ (au7 P):=by rfl
theorem aqf{xs ys us:List D}{P:List D→Prop}:au7 P [.lst xs, .lst ys, .lst us]=P (alE xs ys us):=id rfl
end DL
end
section
namespace DL
open PySem L2 PySem.Spec
variable[bG]
theorem Ext.aEt{K:PySem.W.Frag}{F H F' H':Hp}{a:Addr}{xs:List V}(e:Ext F H F' H')(s:SqL K H a xs):SqL K H' a xs:=by
 rcases s with (h|⟨o,h⟩)|h
 ·exact .inl (.inl (e.h _ _ h))
 ·exact .inl (.inr ⟨o,e.h _ _ h⟩)
 ·exact .inr h
open PyProof.Rows (sortedS)
section
variable{X:Cx}{F0 H0:Hp}{o e:Expr}{apos pos:Pos}
theorem ad7(c:Nat)(l:List Nat):PyProof.Rows.cnt c l=((l.filter fun k=>decide (k=c)).length:Nat):=by
 induction l with
 |nil=>rfl
 |cons a l ih=>
  rw [PyProof.Rows.cnt_cons,ih]
  by_cases g:a=c
  ·rw [List.filter_cons_of_pos (by simp [g])];simp [g];omega
  ·rw [List.filter_cons_of_neg (by simp [g])];simp [g]
def Ot(c:Nat)(t:Tx):Int:=((t.filter fun k=>decide (k=c)).length:Nat)
def agF(t:Tx)(P:D→Prop):D→Prop
 | .str [c]=>P (.int (Ot c t))
 |_=>False
def agG(da:DE)(ρ:Rh)(P:D→Prop):D→Prop
 | .str t=>da ρ (agF t P)
 |_=>False
def aav(do_ da:DE):DE:=fun ρ P=>do_ ρ (agG da ρ P)
theorem alF{to te:TE}(ho:PE X o to)(he:PE X e te)(hs:starEach [e] X.env=[(false,eval e X.env)]:=by rfl)(hbase:attributeBase o "count" X.env (eval o X.env)=eval o X.env:=by rfl)(hline:(apos.endLine==pos.line)=true:=by rfl):
  PE X (.Call (.Attribute o "count" apos) [e] [] pos) (tM1 (fun x xs H Q=> ∃a b,x= .str a∧xs=[.str b]∧Q (.int (Txt.count a b)) H) to te):=
 pe_m1 F.slot_str_count F.type_str_count mt_count ho he hs hbase hline
theorem acr{do_ da:DE}(ho:LB X F0 H0 o do_)(ha:LB X F0 H0 e da)(hs:starEach [e] X.env=[(false,eval e X.env)]:=by rfl)(hbase:attributeBase o "count" X.env (eval o X.env)=eval o X.env:=by rfl)(hline:(apos.endLine==pos.line)=true:=by rfl):
  LE X F0 H0 (.Call (.Attribute o "count" apos) [e] [] pos) (aav do_ da):=
 peW (alF ho ha hs hbase hline) fun σ H Q ⟨F,ρ,fps,P,E,q,k⟩=>⟨F,ρ,fps,_,E,q,fun s hs F1 H1 v e1 r1=>by
  unfold agG at hs
  split at hs
  ·rename_i t
   obtain ⟨rfl,h1,h2⟩:=r1.str
   refine ⟨⟨_,rfl⟩,F1,ρ,fps,_,E.ext e1,hs,fun y hy F2 H2 u e2 r2=> ?_⟩
   unfold agF at hy
   split at hy
   ·rename_i c
    obtain ⟨rfl,h3,h4⟩:=r2.str
    refine ⟨_,_,rfl,rfl, ?_⟩
    have ec:Txt.count (aZ t) (aZ [c])=Ot c t:=by
     unfold Ot
     rw [←ad7]
     exact (PyProof.Rows.count_cnt (aZ t) c).trans (by simp [aZ])
    rw [ec]
    exact k _ hy F2 H2 _ (e1.trans e2) (.int _)
   ·exact hy.elim
  ·exact hs.elim⟩
def alG(K:PySem.W.Frag):List V→Hp→VK→Prop:=fun vs H Q=> ∃(a:Addr) (xs:List Str),vs=[V.ref a]∧SqL K H a (xs.map V.str)∧
 ∀(ys:List Str) (p:Addr),ys.Perm xs→sortedS ys=true→H p=none→Q (.ref p) (upd H p (.lst (ys.map V.str)))
theorem ad8:CallR X (.builtin "sorted") (alG X.K):=by
 intro pins s σ H vs us Q I r h
 obtain ⟨a,xs,rfl,hs,q⟩:=h
 obtain ⟨its,rv,hl,hz⟩:=I.list hs
 rw [Vals.ref1 r]
 have hlen0:=rv.length
 refine PyProof.Rows.sorted_strsAny hl.isList rv.strs (by rw [←hlen0];exact hz) fun out ys h1 h2 h3=> ?_
 obtain ⟨ep,he'⟩:=PyProof.Rows.sortedAll_at s.heap its out
 rw [List.length_map] at hz
 have hlen:(ys.map V.str).length≤sizeLine:=by rw [List.length_map,h2.length_eq];exact hz
 exact ⟨.ref _,upd H (s.heap.objs.size+1) (.lst (ys.map V.str)),I.laid (t':=s.toks) (fun _ _=>PyProof.Rows.sortedAll_old) (Nat.le_succ _) ⟨hlen,out.toList,ep,vals_of_strs h1,he'⟩,rfl,q ys _ h2 h3 (I.hok.fresh (Nat.le_succ _))⟩
def aaw:List D→(D→Prop)→Prop
 |[.lst xs],P=> ∃ts:List Tx,xs=ts.map D.str∧ ∀us:List Tx,us.Perm ts→lV us→P (.lst (us.map D.str))
 |_,_=>False
theorem acs{K:PySem.W.Frag}{F:Hp}: ∀{ts:List Tx} {vs:List V},aY K F vs (ts.map D.str)→ ∀t∈ts,t.length≤sizeLine∧oF t=true
 |[],_,_,_,h=>by cases h
 |t::ts,_,r,u,h=>by
  cases r with
  |cons r rr=>
   rcases List.mem_cons.mp h with q|q
   ·subst q;cases r with|str _ z g=>exact ⟨z,g⟩
   ·exact acs rr u q
theorem aqg:Mj X (.builtin "sorted") aaw:=⟨_,fun F H vs xs P Q e r d k=>by
 unfold aaw at d
 split at d
 ·obtain ⟨ts,rfl,d⟩:=d
  obtain ⟨v,rfl,r1⟩:=r.one
  obtain ⟨p,ws,rfl,s,r2,z⟩:=r1.lst e
  have ok:=acs r2
  rw [r2.strs] at s
  refine ⟨p,ts.map aZ,rfl,s,fun ys l hp hsrt hl=> ?_⟩
  have hy:(ys.map lY).map aZ=ys:=by
   rw [List.map_map]
   conv=>rhs;rw [←List.map_id ys]
   exact List.map_congr_left fun y _=>vJ y
  have hp2:(ys.map lY).Perm ts:=by
   have:=hp.map lY
   rw [List.map_map] at this
   have e2:ts.map (lY∘aZ)=ts:=by
    conv=>rhs;rw [←List.map_id ts]
    exact List.map_congr_left fun t _=>by simp [lY,aZ,TL.tl]
   rw [e2] at this
   exact this
  have hs2:lV (ys.map lY):=by
   unfold lV
   rw [hy];exact hsrt
  have rl:aY X.K F (ys.map V.str) ((ys.map lY).map D.str):=by
   have:=aY.of_strs (K:=X.K) (F:=F) (ys.map lY) fun n hn=>ok n (hp2.mem_iff.mp hn)
   rw [hy] at this
   exact this
  have zl:((ys.map lY).map D.str).length≤sizeLine:=by rw [List.length_map,hp2.length_eq];simpa using z
  exact k _ (d _ hp2 hs2) _ _ _ (.new e hl) (rA e hl rl zl)
 ·exact d.elim,ad8⟩
def alH(xs:List D)(P:D→Prop):D→Prop
 | .str t=> ∃(ts:List Tx) (j:Nat),xs=ts.map D.str∧ts[j]? =some t∧(∀i,i<j→ts[i]? ≠some t)∧P (.int (j:Nat))
 |_=>False
def alI(da:DE)(ρ:Rh)(P:D→Prop):D→Prop
 | .lst xs=>da ρ (alH xs P)
 |_=>False
def awF(do_ da:DE):DE:=fun ρ P=>do_ ρ (alI da ρ P)
def aBX(c:Nat)(t:Tx):List Tx:=TL.spl [c] 0 [] t
def awG(t:Tx)(P:D→Prop):D→Prop
 | .str [c]=>c<256∧P (.lst ((aBX c t).map D.str))
 |_=>False
def awH(da:DE)(ρ:Rh)(P:D→Prop):D→Prop
 | .str t=>t.length+2≤sizeLine∧da ρ (awG t P)
 |_=>False
def awI(do_ da:DE):DE:=fun ρ P=>do_ ρ (awH da ρ P)
end
section
variable{do_ da:DE}{ρ:Rh}{P:D→Prop}{t:Tx}{c:Nat}{xs:List D}
theorem aqh:aav do_ da ρ P=do_ ρ (agG da ρ P):=id rfl
theorem aqi:agG da ρ P (.str t)=da ρ (agF t P):=id rfl
theorem aqj:agF t P (.str [c])=P (.int (Ot c t)):=id rfl
theorem aqk:awF do_ da ρ P=do_ ρ (alI da ρ P):=id rfl
theorem aql:alI da ρ P (.lst xs)=da ρ (alH xs P):=id rfl
theorem aqm:alH xs P (.str t)= ∃(ts:List Tx) (j:Nat),xs=ts.map D.str∧ts[j]? =some t∧(∀i,i<j→ts[i]? ≠some t)∧P (.int (j:Nat)):=id rfl
theorem aqn:awI do_ da ρ P=do_ ρ (awH da ρ P):=id rfl
theorem awJ:awH da ρ P (.str t)=(t.length+2≤sizeLine∧da ρ (awG t P)):=id rfl
theorem awK:awG t P (.str [c])=(c<256∧P (.lst ((aBX c t).map D.str))):=id rfl
theorem aqo:aaw [.lst xs] P= ∃ts:List Tx,xs=ts.map D.str∧ ∀us:List Tx,us.Perm ts→lV us→P (.lst (us.map D.str)):=id rfl
end
end DL
end
section
namespace DL
open PySem L2
variable[bG]
def aqp(K:PySem.W.Frag)(ms:List Bool)(S:jB):Sp:=fun vs H Q E=> ∃F ds P Xc,(Same F H∧pK F H)∧sX K F H ms vs ds∧S ds P Xc∧(∀x,P x→ ∀F' H' v fp,Ext F H F' H'→Own K F' H' v x fp→fp.Nodup→(∀a∈fp,H a=none)→Q v H')∧
 ∀C g,Xc C g→ ∀F' H' cls d,Ext F H F' H'→ahN K F' H' cls d C g→E cls d H'
section
variable{P:Program}{w:World}{K:PySem.W.Frag}{mg:Str→Option Value}{base:Heap}
end
structure aFv(P:Program)(w:World)(K:PySem.W.Frag)(mg:Str→Option Value)(base:Heap)(x:Str)(k:Nat)(ms:List Bool)(S:jB):Prop where
 ex: ∃f fd ps,FnOk P w K mg base (L2.CX P w) k f fd ps (aqp K ms S)∧mg x=some (.ref f)∧PySem.W.keepIn K (.ref f)=true∧Binds K fd ps []
section
variable{X:Cx}{F0 H0:Hp}{e a b c o:Expr}{es:List Expr}{pos p apos:Pos}{x m:Str}
def aBY(K:PySem.W.Frag)(F0 H0:Hp)(W:WX)(d:XC→DE):TE:=fun σ H Q=> ∃F ρ fps P Xc,bJ K F0 H0 F H σ ρ fps∧d Xc ρ P∧(∀x,P x→ ∀F' H' v fp,Ext F H F' H'→Own K F' H' v x fp→fp.Nodup→(∀a∈fp,H a=none)→Q v H')∧
 ∀C g,Xc C g→ ∀F' H' cls d,Ext F H F' H'→ahN K F' H' cls d C g→W cls d σ H'
def LNX(X:Cx)(F0 H0:Hp)(e:Expr)(d:XC→DE):Prop:= ∀(W:WX) (pn:List (Addr×Obj)) (xe:Value→Shared→Prop),Takes (X.tr pn xe) W→PE (X.tr pn xe) e (aBY X.K F0 H0 W d)
end
end DL
end
section
namespace DL
open PySem L2 PySem.Spec PyProof.Rows
variable[bG]
section
variable{K:PySem.W.Frag}{F H F':Hp}
def aFw(fp:List Addr)(F H:Hp):Hp:=fun a=>if a∈fp then H a else F a
theorem gU.rep(sm:Same F F'): ∀{vs:List V} {ds:List D} {fp:List Addr},gU K F H vs ds fp→(∀a∈fp,F' a=H a)→aY K F' vs ds
 |_,_,_, .nil,_=> .nil
 |_,_,_, .sh r n q,m=> .cons (r.mono sm) (q.rep sm m)
 |_,_,_, .ow h r z n q,m=> .cons (.lst (.of (by rw [m _ (by simp)];exact h)) z (r.mono sm)) (q.rep sm fun b hb=>m b (List.mem_cons_of_mem _ hb))
theorem gU.K6(sm:Same F F'): ∀{vs:List V} {ds:List D} {fp:List Addr},gU K F H vs ds fp→(∀a∈fp,F' a=F a)→gU K F' H vs ds fp
 |_,_,_, .nil,_=> .nil
 |_,_,_, .sh r n q,m=> .sh (r.mono sm) n (q.K6 sm m)
 |_,_,_, .ow h r z n q,m=> .ow h (r.mono sm) z (by rw [m _ (by simp)];exact n) (q.K6 sm fun b hb=>m b (List.mem_cons_of_mem _ hb))
theorem jt.K6{F0 H0:Hp}{x:Option V}{s:Sl}{fp:List Addr}(sm:Same F F')(h:jt K F0 H0 F H x s fp)(m: ∀a∈fp,F' a=F a):jt K F0 H0 F' H x s fp:=by
 cases h with
 |no=>exact .no
 |sh r=>exact .sh (r.mono sm)
 |bo r=>exact .bo r
 |bg r nn=>exact .bg r nn
 |dk h r f=>exact .dk h (r.mono sm) (by rw [m _ (by simp)];exact f)
 |nl h q z f=>exact .nl h (q.K6 sm fun b hb=>m b (List.mem_cons_of_mem _ hb)) z (by rw [m _ (by simp)];exact f)
 |gn h q=>exact .gn (h.hh sm fun b hb=>⟨rfl,by rw [m b hb];exact (h.none b hb).1⟩) q
 |ow o=>
  cases o with
  |lst h r z n=>exact .ow (.lst h (r.mono sm) z (by rw [m _ (by simp)];exact n))
  |obj h r n=>exact .ow (.obj h (r.mono sm) (by rw [m _ (by simp)];exact n))
  |dct h k o r n=>exact .ow (.dct h k o (r.mono sm) (by rw [m _ (by simp)];exact n))
  |nct w h k b r n=>exact .ow (.nct w h k (b.mono sm) (r.mono sm) (by rw [m _ (by simp)];exact n))
  |tup h q z n=>exact .ow (.tup h (q.K6 sm fun b hb=>m b (List.mem_cons_of_mem _ hb)) z (by rw [m _ (by simp)];exact n))
theorem bB.K6{F0 H0:Hp}(sm:Same F F'): ∀{σ:L2.St} {ρ:Rh} {fps:List (List Addr)},bB K F0 H0 F H σ ρ fps→(∀a∈fps.flatten,F' a=F a)→bB K F0 H0 F' H σ ρ fps
 |_,_,_, .nil,_=> .nil
 |_,_,_, .cons q r,m=> .cons (q.K6 sm fun a ha=>m a (by rw [List.flatten_cons];exact List.mem_append_left _ ha)) (r.K6 sm fun a ha=>m a (by rw [List.flatten_cons];exact List.mem_append_right _ ha))
end
def aBZ(i:Nat)(d:DS):DS:=fun E ρ=>iI i ρ fun x=>Fj x fun _=>d E (ρ.set i (.sh x))
section
variable{X:Cx}{F0 H0:Hp}{e a b c o:Expr}{es:List Expr}{pos p apos:Pos}{x:Str}
def awL(i k:Nat)(E:DEn)(ρ:Rh)(xs ys:List D)(y:D)(j:Int):Prop:=(0≤j∧j<ys.length)∧E.nx (ρ.set i (.ow (.tup (xs.set k (.lst (ys.set j.toNat y))))))
def awM(i k:Nat)(E:DEn)(ρ:Rh)(xs ys:List D)(y:D)(z:D):Prop:=zQ z (awL i k E ρ xs ys y)
def aEu(i k:Nat)(db:DE)(E:DEn)(ρ:Rh)(xs:List D)(y:D)(ys:List D):Prop:=db ρ (awM i k E ρ xs ys y)
def awN(i k:Nat)(db:DE)(E:DEn)(ρ:Rh)(xs:List D)(y:D)(d:D):Prop:=Fl d (aEu i k db E ρ xs y)
def aEv(i k:Nat)(db:DE)(E:DEn)(ρ:Rh)(y:D)(xs:List D):Prop:=wW k xs (awN i k db E ρ xs y)
def awO(i k:Nat)(db:DE)(E:DEn)(ρ:Rh)(y:D)(x:D):Prop:=Fj x (aEv i k db E ρ y)
def awP(i k:Nat)(db:DE)(E:DEn)(ρ:Rh)(y:D):Prop:=iI i ρ (awO i k db E ρ y)
def aEw(i k:Nat)(db da:DE):DS:=fun E ρ=>da ρ (awP i k db E ρ)
def awQ(K:PySem.W.Frag)(F0 H0:Hp)(d:DA):TA:=fun σ H Q=> ∃F ρ fps P,bJ K F0 H0 F H σ ρ fps∧d ρ P∧ ∀xs,P xs→ ∀F' H' vs fp,Ext F H F' H'→gU K F' H' vs xs fp→fp.Nodup→(∀a∈fp,H a=none∨a∈fps.flatten)→Q vs H'
abbrev aFx(X:Cx)(F0 H0:Hp)(es:List Expr)(d:DA):Prop:=PA X es (awQ X.K F0 H0 d)
def awR(i:Nat)(dr:DA):DA:=fun ρ P=>iI i ρ fun x=>Fl x fun _=>dr (ρ.set i .no) (vQ P x)
end
section
variable{E:DEn}{ρ:Rh}{P:D→Prop}{PL:List D→Prop}{x y z:D}{xs ys r:List D}{k i:Nat}{j:Int}{da db:DE}{dr:DA}{d1:DS}
def au8(i:Nat)(d1:DS)(E:DEn)(ρ:Rh)(x:D):Prop:=Fj x fun _=>iw i (.sh x) ρ (d1 E)
theorem awS:aBZ i d1 E ρ=iI i ρ (au8 i d1 E ρ):=id rfl
theorem aqq:au8 i d1 E ρ (.tup xs)=iw i (.sh (.tup xs)) ρ (d1 E):=id rfl
theorem aB0:aEw i k db da E ρ=da ρ (awP i k db E ρ):=id rfl
theorem awT:awP i k db E ρ y=iI i ρ (awO i k db E ρ y):=id rfl
theorem awU:awO i k db E ρ y (.tup xs)=wW k xs (awN i k db E ρ xs y):=id rfl
theorem awV:awN i k db E ρ xs y (.lst ys)=db ρ (awM i k E ρ xs ys y):=id rfl
theorem awW:awM i k E ρ xs ys y z=zQ z (awL i k E ρ xs ys y):=id rfl
theorem awX:awL i k E ρ xs ys y j=((0≤j∧j<ys.length)∧iw i (.ow (.tup (xs.set k (.lst (ys.set j.toNat y))))) ρ E.nx):=id rfl
def alJ(i:Nat)(dr:DA)(ρ:Rh)(PL:List D→Prop)(x:D):Prop:=Fl x fun _=>iw i .no ρ fun r=>dr r (vQ PL x)
theorem aqr:awR i dr ρ PL=iI i ρ (alJ i dr ρ PL):=id rfl
theorem alK:alJ i dr ρ PL (.lst xs)=iw i .no ρ fun r=>dr r (vQ PL (.lst xs)):=id rfl
theorem ahO:JL dr ρ PL (.int j)=dr ρ (vQ PL (.int j)):=by
 unfold JL ak9;simp
end
end DL
end
section
namespace DL
open PySem L2 PySem.Spec PyProof.Rows
variable[bG]
def aB1(a b:Tx):Bool:=(List.range (b.length+1)).any fun i=>decide ((b.drop i).take a.length=a)
def aB2:DR2
 | .str a, .str b,P=>P (.bl (aB1 a b))
 |_,_,_=>False
theorem awY{a b:Tx}{P:D→Prop}:aB2 (.str a) (.str b) P=P (.bl (aB1 a b)):=id rfl
end DL
end
section
namespace DL
open PySem L2 PySem.Spec PyProof.Rows
variable[bG]
structure aFy(K:PySem.W.Frag)(B:Addr):Prop where
 rd:PySem.W.readsIn K B (.type "type")=true
 ga:PySem.W.specialIn K (.ref B) "__getattribute__"=some (some (.builtin "type.__getattribute__"))
 ty:PySem.W.typeIn K (.ref B)=some (.type "type")
 ini:PySem.W.findCls K (.ref B) (.type "type") "__init__"=some (.val (.builtin "ValueError.__init__"))
structure XIn(K:PySem.W.Frag)(C x:Addr)(F0 H0 F H:Hp)(σ:L2.St)(ρ:Rh)(gs:List (Str×D)):Prop where
 ex:Ext F0 H0 F H
 tb:pK F0 H0
 nF:F x=none
 nH:H0 x=none
 s0:σ[0]? =some (some (.ref x))
 st:(gs=[]∧H x=some (exo x C none))∨ ∃dx fs,gs≠[]∧H x=some (exo x C (some dx))∧H dx=some (exd dx fs)∧F dx=none∧H0 dx=none∧dx≠x∧jN K F fs gs
 sl: ∃fps,bB K F0 H0 F H σ (.no::ρ) fps∧fps.flatten=[]
def au9(K:PySem.W.Frag)(C x:Addr)(F0 H0:Hp)(d:DIn):TS:=fun D σ H=> ∃F ρ gs P,XIn K C x F0 H0 F H σ ρ gs∧d (.no::ρ) gs P∧ ∀gs',P gs'→ ∀F' H',XIn K C x F0 H0 F' H' σ ρ gs'→D.nx σ H'
def aB3(f:Str)(da:DE):DIn:=fun ρ gs P=>da ρ fun y=>gs.length≤900∧P ((f,y)::gs)
def awZ:DIn:=fun _ gs P=>gs=[]∧P []
section
variable{X:Cx}{F0 H0:Hp}{C x:Addr}{e o:Expr}{pos pos' p1 p2:Pos}
abbrev LXi(X:Cx)(C x:Addr)(F0 H0:Hp)(st:Stmt)(d:DIn):Prop:=PS X st (au9 X.K C x F0 H0 d)
abbrev aEx(X:Cx)(C x:Addr)(F0 H0:Hp)(st:List Stmt)(d:DIn):Prop:=PSs X st (au9 X.K C x F0 H0 d)
end
def alL(K:PySem.W.Frag)(C:Addr)(S:d9):Sp:=fun vs H Q _=> ∃F H1 x vs' ds P,vs= .ref x::vs'∧H=upd H1 x (exo x C none)∧H1 x=none∧(Same F H1∧pK F H1)∧aY K F vs' ds∧S ds P∧
 ∀gs,P gs→gs≠[]∧ ∀F' H' dx fs,Ext F H1 F' H'→H' x=some (exo x C (some dx))→H' dx=some (exd dx fs)→F' x=none→F' dx=none→H1 dx=none→dx≠x→jN K F' fs gs→Q .non H'
section
variable{P:Program}{w:World}{K:PySem.W.Frag}{mg:Str→Option Value}{base:Heap}
end
structure MkX(P:Program)(w:World)(K:PySem.W.Frag)(mg:Str→Option Value)(base:Heap)(x:Str)(C:Addr)(k:Nat)(S:d9):Prop where
 ex: ∃f fd ps,OexC K C∧PySem.W.findIn K (.ref C) "__init__"=some (some (.ref f))∧PySem.W.typeIn K (.ref f)=some (.type "function")∧FnOk P w K mg base CX0 k f fd ps (alL K C S)∧Binds K fd ps []∧mg x=some (.ref C)
def aqs(C:Addr)(S:d9)(da:DA)(Xc:XC):DS:=fun _ ρ=>da ρ fun xs=>xs.length≤1000∧S xs fun gs=>gs≠[]∧Xc C (some gs)
section
variable{X:Cx}{F0 H0:Hp}{e:Expr}{es:List Expr}{pos p apos:Pos}{x:Str}
end
def au_(K:PySem.W.Frag)(F H:Hp)(C a:Addr):XG→Prop
 |none=>H a=some (ExV (.ref C) none a)
 |some gs=> ∃dd fs,H a=some (ExV (.ref C) (some dd) a)∧F dd=some (.xd fs)∧jN K F fs gs
section
variable{X:Cx}{F0 H0:Hp}{e a b c o:Expr}{es:List Expr}{pos p pos' np apos:Pos}{x m n:Str}
def aFb(Cs:List Addr)(i j:Nat)(dst:XC→DS)(d0:DS)(dX:Addr→Addr→XG→DS):DS:=fun E ρ=>zV ρ∧(i<ρ.length∧
 dst (fun C g=>C∈Cs∧ ∀a,dX a C g { nx:=fun _=>False,rt:=E.rt,rn:=E.rn } (((ρ.set i (.sh (.fn a))).set j (.sh (.fn a))).set i .no)) { E with nx:=fun ρ'=>d0 E ρ' } ρ)
end
theorem au_.at_{K:PySem.W.Frag}{F0 H0 F H:Hp}{C a:Addr}{g:XG}(k:au_ K F0 H0 C a g)(e:Ext F0 H0 F H): ∃d,H a=some (ExV (.ref C) d a)∧ ∀dd,d=some dd→ ∃fs,H dd=some (.xd fs):=by
 cases g with
 |none=>exact ⟨none,e.h _ _ k,fun dd z=>by cases z⟩
 |some gs=>
  obtain ⟨dd,fs,k1,k2,_⟩:=k
  exact ⟨some dd,e.h _ _ k1,fun d z=>by cases z;exact ⟨fs,e.w _ _ (e.f _ _ k2)⟩⟩
def aFz(K:PySem.W.Frag):List V→Hp→VK→Prop:=fun xs H Q=> ∃(a D:Addr) (d:Option Addr) (c:V) (cv:Value) (b:Bool),xs=[.ref a,c]∧(H a=some (ExV (.ref D) d a)∧ ∀dd,d=some dd→ ∃fs,H dd=some (.xd fs))∧ExcC K D∧ClsV c cv∧PySem.W.kitOne K (.ref D) cv=some b∧Q (.bl b) H
def aFc(K:PySem.W.Frag):List V→Hp→VK→Prop:=fun xs H Q=> ∃(a D tp:Addr) (d:Option Addr) (cs:List V) (us:List Value) (b:Bool),xs=[.ref a, .ref tp]∧(H a=some (ExV (.ref D) d a)∧ ∀dd,d=some dd→ ∃fs,H dd=some (.xd fs))∧ExcC K D∧H tp=some (.tup cs)∧Paired ClsV cs us∧PySem.W.kitAny K (.ref D) us=some b∧Q (.bl b) H
section
variable{X:Cx}
def aFA(K:PySem.W.Frag)(n:Str)(te:TE):TE:=fun σ H Q=>te σ H fun x H1=> ∃(a C dd:Addr) (fs:List (Str×V)) (v:V),x= .ref a∧H1 a=some (ExV (.ref C) (some dd) a)∧(XfC K C∧PySem.W.findIn K (.ref C) n=some none)∧H1 dd=some (.xd fs)∧fs.lookup n=some v∧Q v H1
end
def xfG(a:Addr)(g:XG)(f:Str)(P:D→Prop)(x:D):Prop:=x= .fn a∧match g with|some gs=>dJ (gs.lookup f) P|none=>False
def dXF(a:Addr)(g:XG)(f:Str)(da:DE):DE:=fun ρ P=>da ρ (xfG a g f P)
section
variable{X:Cx}{F0 H0:Hp}{e t:Expr}{pos p:Pos}{x:Str}{kin:Kin}{kb:acp}{a C:Addr}{g:XG}{da db:DE}
end
section
variable{ρ:Rh}{P:D→Prop}{E:DEn}{x:D}{xs:List D}{C a:Addr}{da:DE}{dr:DA}{Cs:List Addr}{Xc:XC}{gs:List (Str×D)}{d0:DS}{dst:XC→DS}{dX:Addr→Addr→XG→DS}{i j:Nat}{g:XG}{f:Str}{S:d9}{PG:List (Str×D)→Prop}
def aax(C:Addr)(Xc:XC)(gs:List (Str×D)):Prop:=gs≠[]∧Xc C (some gs)
def agH(C:Addr)(S:d9)(Xc:XC)(xs:List D):Prop:=xs.length≤1000∧apI S xs (aax C Xc)
theorem alM:aqs C S dr Xc E ρ=dr ρ (agH C S Xc):=id rfl
theorem ahP:agH C S Xc xs=(xs.length≤1000∧apI S xs (aax C Xc)):=id rfl
theorem ahQ:aax C Xc gs=(gs≠[]∧Xc C (some gs)):=id rfl
def aFd(Cs:List Addr)(i j:Nat)(dX:Addr→Addr→XG→DS)(E:DEn)(ρ:Rh):XC:=fun C g=>C∈Cs∧ ∀a,dX a C g { nx:=fun _=>False,rt:=E.rt,rn:=E.rn } (((ρ.set i (.sh (.fn a))).set j (.sh (.fn a))).set i .no)
theorem aEy:dXF a g f da ρ P=da ρ (xfG a g f P):=id rfl
theorem aB4:xfG a (some gs) f P (.fn a)=dJ (gs.lookup f) P:=by simp [xfG]
def ava(f:Str)(gs:List (Str×D))(PG:List (Str×D)→Prop)(y:D):Prop:=gs.length≤900∧PG ((f,y)::gs)
theorem aw0:aB3 f da ρ gs PG=da ρ (ava f gs PG):=id rfl
theorem aqt:ava f gs PG x=(gs.length≤900∧PG ((f,x)::gs)):=id rfl
theorem aqu:awZ ρ gs PG=(gs=[]∧PG []):=id rfl
end
end DL
end
section
namespace DL
open PySem L2
variable[bG]
section
variable{X:Cx}{F0 H0:Hp}{a e:Expr}{p p2 p3 pos:Pos}
def aqv(da:DE):DE:=fun ρ P=>da ρ fun x=>match x with| .int n=>RgOk 0 n∧P (.lst (oX 0 n.toNat))|_=>False
def agI(P:D→Prop):D→Prop:=fun x=>match x with| .int n=>RgOk 0 n∧P (.lst (oX 0 n.toNat))|_=>False
variable{da:DE}{ρ:Rh}{P:D→Prop}{n:Int}
theorem alN:aqv da ρ P=da ρ (agI P):=id rfl
theorem ahR:agI P (.int n)=(RgOk 0 n∧P (.lst (oX 0 n.toNat))):=id rfl
end
mutual
def vR:D→Bool
 | .non=>true
 | .bl _=>true
 | .int _=>true
 | .str _=>true
 | .lst xs=>Fo xs
 | .tup xs=>Fo xs
 |_=>false
def Fo:List D→Bool
 |[]=>true
 |x::xs=>vR x&&Fo xs
end
mutual
theorem aqw{K:PySem.W.Frag}{F:Hp}: ∀(d:D) {v:V},Rep K F v d→vR d=true→Dp K F v (mW d)∧(mW d).canLay0=true∧(mW d).depth=fL d
 | .non,_,r,_=>by cases r;exact ⟨.non,by simp [mW,PyData.canLay0,PyData.depth,fL]⟩
 | .bl b,_,r,_=>by cases r;exact ⟨.bl b,by simp [mW,PyData.canLay0,PyData.depth,fL]⟩
 | .int i,_,r,_=>by cases r;exact ⟨.int i,by simp [mW,PyData.canLay0,PyData.depth,fL]⟩
 | .str x,_,r,_=>by cases r with|str _ z g=>exact ⟨.str _,by simp [mW,PyData.canLay0,PyData.depth,fL,abm g]⟩
 | .lst xs,_,r,h=>by
  simp only [vR] at h
  cases r with
  |lst s z r=>
   have q:=Ul xs r h
   exact ⟨.lst s q.1,by simp [mW,PyData.canLay0,PyData.depth,fL,q.2.1,q.2.2]⟩
 | .tup xs,_,r,h=>by
  simp only [vR] at h
  cases r with
  |tup s z r=>
   have q:=Ul xs r h
   exact ⟨.tup s q.1,by simp [mW,PyData.canLay0,PyData.depth,fL,q.2.1,q.2.2]⟩
 | .ty _,_,_,hx=>by simp [vR] at hx
 | .fn _,_,_,hx=>by simp [vR] at hx
 | .obj _ _,_,_,hx=>by simp [vR] at hx
theorem Ul{K:PySem.W.Frag}{F:Hp}: ∀(d:List D) {v:List V},aY K F v d→Fo d=true→DpAll K F v (j9 d)∧PyData.canLayAll0 (j9 d)=true∧PyData.depthAll (j9 d)=jT d
 |[],_,r,_=>by cases r;exact ⟨.nil,by simp [j9,PyData.canLayAll0,PyData.depthAll,jT]⟩
 |x::xs,_,r,h=>by
  simp only [Fo,Bool.and_eq_true] at h
  cases r with
  |cons a b=>
   have h1:=aqw x a h.1
   have h2:=Ul xs b h.2
   exact ⟨.cons h1.1 h2.1,by simp [j9,PyData.canLayAll0,PyData.depthAll,jT,h1.2.1,h1.2.2,h2.2.1,h2.2.2]⟩
end
def aw1(P:D→Prop)(xs:List D)(y:D):Prop:=(vR (.tup xs)=true∧fL (.tup xs)≤60)∧y= .tup xs∧P (.bl false)
def aEz(db:DE)(ρ:Rh)(P:D→Prop)(xs:List D):Prop:=db ρ (aw1 P xs)
def aw2(db:DE)(ρ:Rh)(P:D→Prop)(x:D):Prop:=Fj x (aEz db ρ P)
def aEA(i:Nat)(db:DE):DE:=fun ρ P=>iI i ρ (aw2 db ρ P)
section
variable{X:Cx}{F0 H0:Hp}{a b:Expr}{pos:Pos}
end
section
variable{ρ:Rh}{P:D→Prop}{xs:List D}{y:D}{db:DE}{i:Nat}
theorem aB5:aEA i db ρ P=iI i ρ (aw2 db ρ P):=id rfl
theorem aw3:aw2 db ρ P (.tup xs)=db ρ (aw1 P xs):=id rfl
theorem aw4:aw1 P xs y=((vR (.tup xs)=true∧fL (.tup xs)≤60)∧y= .tup xs∧P (.bl false)):=id rfl
end
end DL
end
section
namespace DL
open PySem L2
variable[bG]
section
variable{X:Cx}{F0 H0:Hp}{e a b o:Expr}{pos p p2 apos:Pos}
def aqx:DR2
 | .int i, .int j,P=>P (.int (Builtin.bitXor i j))
 |_,_,_=>False
def aw5:List D→(D→Prop)→Prop
 |[.str u],P=>((u.all (fun c=>decide (48≤c)&&decide (c≤57))=true∧u≠[])∧u.length≤640)∧P (.int (NumText.digitsVal u:Nat))
 |_,_=>False
def alO(i:Nat)(x y:D)(ys:List D)(E:DEn)(ρ:Rh)(z:D):Prop:=ys.length<sizeLine∧E.nx (ρ.set i (.ow (.lst (ys++[.tup [x,y,z]]))))
def alP(i:Nat)(d3:DE)(E:DEn)(ρ:Rh)(xs:List D)(x:D):Prop:= ∃ys y,xs=ys++[y]∧d3 (ρ.set i (.ow (.lst ys))) (alO i x y ys E ρ)
def ad9(i:Nat)(d1 d3:DE)(E:DEn)(ρ:Rh)(x:D):Prop:=match x with| .lst xs=>d1 ρ (alP i d3 E ρ xs)|_=>False
def alQ(i:Nat)(d1 d3:DE):DS:=fun E ρ=>match ρ[i]? with|some (.ow x)=>ad9 i d1 d3 E ρ x|_=>False
def alR(i:Nat)(E:DEn)(ρ:Rh)(xs:List D)(x:D):Prop:= ∃ys y,xs=ys++[y]∧ys.length<sizeLine∧E.nx (ρ.set i (.ow (.lst (ys++[.tup [x,y]]))))
def ad_(i:Nat)(d1:DE)(E:DEn)(ρ:Rh)(x:D):Prop:=match x with| .lst xs=>d1 ρ (alR i E ρ xs)|_=>False
def alS(i:Nat)(d1:DE):DS:=fun E ρ=>match ρ[i]? with|some (.ow x)=>ad_ i d1 E ρ x|_=>False
end
section
variable{i:Nat}{d1 d3:DE}{E:DEn}{ρ:Rh}{x y z:D}{xs ys:List D}{P:D→Prop}{a b:Int}
theorem alT:(aqx (.int a) (.int b) P)=(P (.int (Builtin.bitXor a b))):=id rfl
theorem aqy{u:Tx}:aw5 [.str u] P=(((u.all (fun c=>decide (48≤c)&&decide (c≤57))=true∧u≠[])∧u.length≤640)∧P (.int (NumText.digitsVal u:Nat))):=id rfl
theorem aqz:alQ i d1 d3 E ρ=iI i ρ (ad9 i d1 d3 E ρ):=by
 unfold alQ iI
 cases ρ[i]? with
 |none=>rfl
 |some s=>cases s<;>rfl
theorem alU:ad9 i d1 d3 E ρ (.lst xs)=d1 ρ (alP i d3 E ρ xs):=id rfl
theorem alV:alO i x y ys E ρ z=(ys.length<sizeLine∧E.nx (ρ.set i (.ow (.lst (ys++[.tup [x,y,z]]))))):=id rfl
theorem aqA:alS i d1 E ρ=iI i ρ (ad_ i d1 E ρ):=by
 unfold alS iI
 cases ρ[i]? with
 |none=>rfl
 |some s=>cases s<;>rfl
theorem alW:ad_ i d1 E ρ (.lst xs)=d1 ρ (alR i E ρ xs):=id rfl
end
end DL
end
section
namespace DL
open PySem L2
variable[bG]
section
variable{X:Cx}{F0 H0:Hp}{pos pos' np:Pos}{x:Str}
def avb(Cs:List Addr)(dh:Addr→DS)(E:DEn)(ρ:Rh):XC:=fun C g=>C∈Cs∧g=none∧dh C E ρ
def alX(Cs:List Addr)(dst:XC→DS)(dh:Addr→DS):DS:=fun E ρ=>dst (avb Cs dh E ρ) E ρ
theorem aqB{st b0:Stmt}{suite:List Stmt}{cl:Value}{Cs:List Addr}{dst:XC→DS}{dh:Addr→DS}(hs:X.stack=X.env::X.outer)(hf:X.env.frame=some X.env.locals)
  (hc:Names X x cl) (hC:JN X.K cl Cs) (h:LSX X F0 H0 st dst)
  (hsu: ∀(a C:Addr) (oe:Obj) (pn:List (Addr×Obj)),C∈Cs→Zc (.ref C) none oe→(∃vs,oe.data= .fields vs)→LSs (X.suite a ((a,oe)::pn)) F0 H0 (b0::suite) (dh C)):
  LS X F0 H0 (.Try [st] [.ExceptHandler (some (.Name x np)) none (b0::suite) pos'] [] [] pos) (alX Cs dst dh):=
 psW (ps_try_only (Wout:=fun _ _ _ _=>False) (tb:=fun W=>alu X.K F0 H0 W dst) (ts:=fun a cls d=>fun D σ H=> ∃C,C∈Cs∧cls= .ref C∧d=none∧adR X.K F0 H0 (dh C) D σ H) hs hf hc (by
   intro u s' ⟨_,_,_,_,_,_,_,_,_,_,_,_,_,_,_,_,z⟩
   exact z.elim) (fun W pn xe tk _=>pss_one (h W pn xe tk)) (fun a oe cls d pn hz hv=>⟨fun pins s σ H D I ⟨C,hm,e1,e2,q⟩=>by
   subst e1 e2
   exact (hsu a C oe pn hm hz hv).run pins s σ H D I q⟩)) fun D σ H ⟨F,ρ,fps,E,R,q,k⟩=>⟨F,ρ,fps,E,_,R,q,k,fun C g ⟨hm,hg,hx⟩ F' H' cls d e r=>by
  subst hg
  obtain ⟨r1,r2⟩:=r
  subst r1 r2
  exact ⟨true,hC C hm,fun _ a ha=>⟨C,hm,rfl,rfl,F',ρ,fps,E,R.ext e,hx,k.mono e.f⟩,fun z=>absurd z (by decide)⟩⟩
end
section
variable{Cs:List Addr}{dst:XC→DS}{dh:Addr→DS}{E:DEn}{ρ:Rh}
theorem aw6:alX Cs dst dh E ρ=dst (avb Cs dh E ρ) E ρ:=id rfl
end
end DL
end
section
namespace DL
open PySem L2 PySem.Spec PyProof.Rows
variable[bG]
section
variable{K:PySem.W.Frag}{F H F':Hp}
theorem gU.snoc{p:Addr}{ws:List V}{xs:List D}(h1:H p=some (.lst ws))(r1:aY K F ws xs)(z1:xs.length≤sizeLine)(n1:F p=Option.none): ∀{vs:List V} {ds:List D} {fp:List Addr},gU K F H vs ds fp→gU K F H (vs++[.ref p]) (ds++[.lst xs]) (fp++[p])
 |_,_,_, .nil=> .ow h1 r1 z1 n1 .nil
 |_,_,_, .sh r n q=> .sh r n (gU.snoc h1 r1 z1 n1 q)
 |_,_,_, .ow h r z n q=> .ow h r z n (gU.snoc h1 r1 z1 n1 q)
end
def aB6(i:Nat)(d:DS)(E:DEn)(ρ:Rh)(xs:List D):Prop:=iw i (.sh (.lst xs)) ρ (d E)
def aEB(i:Nat)(d:DS):DS:=fun E ρ=>Uj i ρ (aB6 i d E ρ)
section
variable{X:Cx}{F0 H0:Hp}{e a b c o tg iter:Expr}{es:List Expr}{pos p apos:Pos}{x:Str}
def aB7(i:Nat)(k:Int)(E:DEn)(ρ:Rh)(xs ys:List D)(y:D):Prop:=ys.length<sizeLine∧iw i (.nl (xs.set k.toNat (.lst (ys++[y])))) ρ E.nx
def aB8(i:Nat)(k:Int)(da:DE)(E:DEn)(ρ:Rh)(xs ys:List D):Prop:=da ρ (aB7 i k E ρ xs ys)
def aB9(i:Nat)(k:Int)(da:DE)(E:DEn)(ρ:Rh)(xs:List D)(d:D):Prop:=Fl d (aB8 i k da E ρ xs)
def aB_(i:Nat)(da:DE)(E:DEn)(ρ:Rh)(xs:List D)(k:Int):Prop:=0≤k∧wW k.toNat xs (aB9 i k da E ρ xs)
def aCa(i:Nat)(da:DE)(E:DEn)(ρ:Rh)(xs:List D)(z:D):Prop:=zQ z (aB_ i da E ρ xs)
def aCb(i:Nat)(di da:DE)(E:DEn)(ρ:Rh)(xs:List D):Prop:=di ρ (aCa i da E ρ xs)
def aFe(i:Nat)(di da:DE):DS:=fun E ρ=>Uj i ρ (aCb i di da E ρ)
def aCc(vs:List Nat)(dg:DG)(ρ:Rh)(P:List D→Prop)(xs:List D):Prop:=xs.length≤sizeLine∧lcD vs dg kZ (iW aF) ρ xs P
def aCd(vs:List Nat)(di:DI)(dg:DG):DA:=fun ρ P=>di ρ (aCc vs dg ρ P)
def aDK(i:Nat)(vs:List Nat)(di:DI)(dg:DG):DS:=fun E ρ=>aCd vs di dg ρ (aat i E ρ)
end
section
variable{E:DEn}{ρ:Rh}{x y:D}{xs ys:List D}{i:Nat}{k:Int}{vs:List Nat}{di:DI}{dg:DG}{da db:DE}{d1:DS}{PL:List D→Prop}
end
end DL
end
section
namespace DL
open PySem L2 PySem.Spec
variable[bG]
open PyProof.Rows (lo1)
section
variable{X:Cx}{F0 H0:Hp}{o e:Expr}{apos pos:Pos}
def aCe(P:D→Prop):D→Prop
 | .str t=>(t.length≤1000000∧ ∀c∈t,c<128)∧P (.str (t.map lo1))
 |_=>False
def aEC(do_:DE):DE:=fun ρ P=>do_ ρ (aCe P)
end
end DL
end
section
namespace DL
open PySem L2
variable[bG]
inductive Stp where
 |fld (f:Str)
 |idx (k:Nat)
 deriving DecidableEq
def fj(f:Str):List (Str×Tr)→Option Nat
 |[]=>none
 |(g,_)::r=>if f=g then some 0 else (fj f r).map (· +1)
def zE(f:Str)(u:Tr):List (Str×Tr)→List (Str×Tr)
 |[]=>[(f,u)]
 |(g,t)::r=>if f=g then (g,u)::r else (g,t)::zE f u r
def Tr.sub:Tr→Stp→Option Tr
 | .obj _ gs, .fld f=>gs.lookup f
 | .lst xs, .idx k=>xs[k]?
 | .tup xs, .idx k=>xs[k]?
 |_,_=>none
def Tr.at_:Tr→List Stp→Option Tr
 |t,[]=>some t
 |t,s::p=>match t.sub s with|some u=>u.at_ p|none=>none
def Tr.put1:Tr→Stp→Tr→Tr
 | .obj C gs, .fld f,u=> .obj C (zE f u gs)
 | .lst xs, .idx k,u=> .lst (xs.set k u)
 | .tup xs, .idx k,u=> .tup (xs.set k u)
 |t,_,_=>t
def Tr.put:Tr→List Stp→Tr→Tr
 |_,[],u=>u
 |t,s::p,u=>match t.sub s with|some w=>t.put1 s (w.put p u)|none=>t
def zW(H:Hp)(v:V):Stp→V→Prop
 | .fld f,w=> ∃a C dx fs,v= .ref a∧H a=some (.ins C dx fs)∧fs.lookup f=some w
 | .idx k,w=> ∃a xs,v= .ref a∧(H a=some (.lst xs)∨H a=some (.tup xs))∧xs[k]? =some w
def oG(H:Hp):V→List Stp→V→Prop
 |v,[],w=>v=w
 |v,s::p,w=> ∃u,zW H v s u∧oG H u p w
theorem zW.mono{H H':Hp}(e:LamX.ExtN H H'){v w:V}{s:Stp}(h:zW H v s w):zW H' v s w:=by
 cases s with
 |fld f=>
  obtain ⟨a,C,dx,fs,h1,h2,h3⟩:=h
  exact ⟨a,C,dx,fs,h1,e _ _ h2 (fun _ z=>by cases z),h3⟩
 |idx k=>
  obtain ⟨a,xs,h1,h2,h3⟩:=h
  exact ⟨a,xs,h1,h2.elim (fun z=> .inl (e _ _ z (fun _ z=>by cases z))) (fun z=> .inr (e _ _ z (fun _ z=>by cases z))),h3⟩
theorem oG.mono{H H':Hp}(e:LamX.ExtN H H'): ∀{p:List Stp} {v w:V},oG H v p w→oG H' v p w
 |[],_,_,h=>h
 |s::p,v,w,⟨u,h1,h2⟩=>⟨u,h1.mono e,oG.mono e h2⟩
theorem oG.snoc{H:Hp}{s:Stp}{w x:V}(h2:zW H w s x): ∀{p:List Stp} {v:V},oG H v p w→oG H v (p++[s]) x
 |[],_,h=>by cases h;exact ⟨_,h2,rfl⟩
 |q::p,v,⟨u,h1,h3⟩=>⟨u,h1,oG.snoc h2 h3⟩
theorem Tr.agJ{s:Stp}{u x:Tr}(h2:u.sub s=some x): ∀{p:List Stp} {t:Tr},t.at_ p=some u→t.at_ (p++[s])=some x
 |[],t,h=>by
  simp only [Tr.at_,Option.some.injEq] at h
  subst h
  simp [Tr.at_,h2]
 |q::p,t,h=>by
  simp only [Tr.at_,List.cons_append] at h ⊢
  cases e:t.sub q with
  |none=>rw [e] at h;cases h
  |some w=>rw [e] at h;exact Tr.agJ h2 h
section
variable{K:PySem.W.Frag}{F H:Hp}
structure aea(F H F' H':Hp)(fp fq fq':List Addr):Prop where
 s:Same F F'
 k: ∀a∈fp,a∉fq→H' a=H a∧F' a=none
 nd:fq'.Nodup
 new: ∀a∈fq',a∈fq∨a∉fp
theorem bh.length: ∀{vs:List V} {ts:List Tr} {fp:List Addr},bh K F H vs ts fp→vs.length=ts.length
 |_,_,_, .nil=>rfl
 |_,_,_, .cons _ r=>by simp [bh.length r]
theorem bh.focus: ∀{vs:List V} {ts:List Tr} {fp:List Addr} {k:Nat} {t:Tr},bh K F H vs ts fp→fp.Nodup→ts[k]? =some t→
  ∃v fq,vs[k]? =some v∧cU K F H v t fq∧fq.Nodup∧(∀a∈fq,a∈fp)∧
   ∀F' H' v' t' fq',aea F H F' H' fp fq fq'→cU K F' H' v' t' fq'→ ∃fp',bh K F' H' (vs.set k v') (ts.set k t') fp'∧fp'.Nodup∧(∀a∈fp',a∈fq'∨(a∈fp∧a∉fq))
 |_,_,_,_,_, .nil,_,e=>by simp at e
 |_,_,_,0,_, .cons (fp:=f1) (fq:=f2) h r,nd,e=>by
  simp at e;subst e
  rw [List.nodup_append] at nd
  refine ⟨_,f1,rfl,h,nd.1,fun a ha=>List.mem_append.mpr (.inl ha),fun F' H' v' t' fq' B h'=>⟨fq'++f2, .cons h' (r.hh B.s fun a ha=>B.k a (List.mem_append.mpr (.inr ha)) fun z=>nd.2.2 a z a ha rfl), ?_,fun a ha=> ?_⟩⟩
  ·rw [List.nodup_append]
   refine ⟨B.nd,nd.2.1,fun a ha b hb e=> ?_⟩
   subst e
   rcases B.new a ha with z|z
   ·exact nd.2.2 a z a hb rfl
   ·exact z (List.mem_append.mpr (.inr hb))
  ·rcases List.mem_append.mp ha with z|z
   ·exact .inl z
   ·exact .inr ⟨List.mem_append.mpr (.inr z),fun y=>nd.2.2 a y a z rfl⟩
 |_,_,_,k+1,_, .cons (fp:=f1) (fq:=f2) h r,nd,e=>by
  rw [List.nodup_append] at nd
  obtain ⟨v,fq,h1,h2,h3,h4,h5⟩:=r.focus (k:=k) nd.2.1 (by simpa using e)
  refine ⟨v,fq,by simpa using h1,h2,h3,fun a ha=>List.mem_append.mpr (.inr (h4 a ha)),fun F' H' v' t' fq' B h'=> ?_⟩
  have B2:aea F H F' H' f2 fq fq':=⟨B.s,fun a ha n=>B.k a (List.mem_append.mpr (.inr ha)) n,B.nd,fun a ha=>(B.new a ha).imp id fun z y=>z (List.mem_append.mpr (.inr y))⟩
  obtain ⟨fp',q1,q2,q3⟩:=h5 F' H' v' t' fq' B2 h'
  refine ⟨f1++fp', .cons (h.hh B.s fun a ha=>B.k a (List.mem_append.mpr (.inl ha)) fun z=>nd.2.2 a ha a (h4 a z) rfl) q1, ?_,fun a ha=> ?_⟩
  ·rw [List.nodup_append]
   refine ⟨nd.1,q2,fun a ha b hb e=> ?_⟩
   subst e
   rcases q3 a hb with z|z
   ·rcases B.new a z with y|y
    ·exact nd.2.2 a ha a (h4 a y) rfl
    ·exact y (List.mem_append.mpr (.inl ha))
   ·exact nd.2.2 a ha a z.1 rfl
  ·rcases List.mem_append.mp ha with z|z
   ·exact .inr ⟨List.mem_append.mpr (.inl z),fun y=>nd.2.2 a z a (h4 a y) rfl⟩
   ·rcases q3 a z with y|y
    ·exact .inl y
    ·exact .inr ⟨List.mem_append.mpr (.inr y.1),y.2⟩
theorem qU{f:Str}: ∀{gs:List (Str×Tr)} {t:Tr},gs.lookup f=some t→ ∃k,fj f gs=some k∧(gs.map (·.2))[k]? =some t
 |[],_,h=>by simp at h
 |(g,u)::r,t,h=>by
  simp only [List.lookup] at h
  by_cases e:f=g
  ·subst e
   simp at h
   subst h
   exact ⟨0,by simp [fj],by simp⟩
  ·have:(f==g)=false:=by simpa using e
   rw [this] at h
   obtain ⟨k,h1,h2⟩:=qU h
   exact ⟨k+1,by simp [fj,e,h1],by simpa using h2⟩
theorem Bs{f:Str}: ∀{gs:List (Str×Tr)} {vs:List (Str×V)} {k:Nat} {v:V},vs.map (·.1)=gs.map (·.1)→fj f gs=some k→(vs.map (·.2))[k]? =some v→vs.lookup f=some v
 |[],_,_,_,_,h,_=>by simp [fj] at h
 |(g,u)::r,[],_,_,e,_,_=>by simp at e
 |(g,u)::r,(g',w)::vs,k,v,e,h,hv=>by
  simp only [List.map_cons,List.cons.injEq] at e
  obtain ⟨rfl,e⟩:=e
  simp only [List.lookup]
  by_cases z:f=g'
  ·subst z
   simp [fj] at h
   subst h
   simp at hv
   simp [hv]
  ·have n:(f==g')=false:=by simpa using z
   rw [n]
   simp only [fj,z,if_false,Option.map_eq_some_iff] at h
   obtain ⟨j,hj,rfl⟩:=h
   exact Bs e hj (by simpa using hv)
theorem JP{f:Str}{u:Tr}: ∀{gs:List (Str×Tr)} {k:Nat},fj f gs=some k→(zE f u gs).map (·.1)=gs.map (·.1)
 |[],_,h=>by simp [fj] at h
 |(g,t)::r,k,h=>by
  unfold zE
  unfold fj at h
  split at h
  ·rename_i e
   rw [if_pos e]
   rfl
  ·rename_i e
   rw [if_neg e]
   simp only [Option.map_eq_some_iff] at h
   obtain ⟨j,hj,rfl⟩:=h
   simp [JP hj]
theorem yZ{f:Str}{u:Tr}: ∀{gs:List (Str×Tr)} {k:Nat},fj f gs=some k→(zE f u gs).map (·.2)=(gs.map (·.2)).set k u
 |[],_,h=>by simp [fj] at h
 |(g,t)::r,k,h=>by
  unfold zE
  unfold fj at h
  split at h
  ·rename_i e
   simp at h
   subst h
   simp [e]
  ·rename_i e
   rw [if_neg e]
   simp only [Option.map_eq_some_iff] at h
   obtain ⟨j,hj,rfl⟩:=h
   simp [yZ hj]
theorem Yt{f:Str}{v:V}: ∀{gs:List (Str×Tr)} {vs:List (Str×V)} {k:Nat},vs.map (·.1)=gs.map (·.1)→fj f gs=some k→(putF f v vs).map (·.1)=gs.map (·.1)∧(putF f v vs).map (·.2)=(vs.map (·.2)).set k v
 |[],_,_,_,h=>by simp [fj] at h
 |(g,u)::r,[],_,e,_=>by simp at e
 |(g,u)::r,(g',w)::vs,k,e,h=>by
  simp only [List.map_cons,List.cons.injEq] at e
  obtain ⟨rfl,e⟩:=e
  unfold putF
  unfold fj at h
  by_cases z:f=g'
  ·subst z
   simp at h
   subst h
   simp [e]
  ·rw [if_neg z] at h
   rw [if_neg fun y=>z y.symm]
   simp only [Option.map_eq_some_iff] at h
   obtain ⟨j,hj,rfl⟩:=h
   obtain ⟨h1,h2⟩:=Yt (v:=v) e hj
   exact ⟨by simp [h1],by simp [h2]⟩
theorem acu{f:Str}{w:V}: ∀{vs:List (Str×V)} {gs:List (Str×Tr)} {k:Nat},vs.map (·.1)=gs.map (·.1)→fj f gs=some k→vs.lookup f=some w→(vs.map (·.2))[k]? =some w
 |[],[],_,_,h,_=>by simp [fj] at h
 |[],_::_,_,e,_,_=>by simp at e
 |_::_,[],_,e,_,_=>by simp at e
 |(g',x)::vs,(g,u)::r,k,e,h,hw=>by
  simp only [List.map_cons,List.cons.injEq] at e
  obtain ⟨rfl,e⟩:=e
  simp only [List.lookup] at hw
  unfold fj at h
  by_cases z:f=g'
  ·subst z
   simp at h hw
   subst h hw
   simp
  ·rw [if_neg z] at h
   have n:(f==g')=false:=by simpa using z
   rw [n] at hw
   simp only [Option.map_eq_some_iff] at h
   obtain ⟨j,hj,rfl⟩:=h
   simpa using acu e hj hw
theorem cU.focus: ∀{p:List Stp} {v:V} {t u:Tr} {fp:List Addr} {w:V},cU K F H v t fp→fp.Nodup→t.at_ p=some u→oG H v p w→
  ∃fq,cU K F H w u fq∧fq.Nodup∧(∀a∈fq,a∈fp)∧
   ∀F' H' u' fq',aea F H F' H' fp fq fq'→cU K F' H' w u' fq'→ ∃fp',cU K F' H' v (t.put p u') fp'∧fp'.Nodup∧(∀a∈fp',a∈fq'∨(a∈fp∧a∉fq))
 |[],v,t,u,fp,w,h,nd,e,pv=>by
  cases pv
  simp only [Tr.at_,Option.some.injEq] at e
  subst e
  exact ⟨fp,h,nd,fun a ha=>ha,fun F' H' u' fq' B h'=>⟨fq',h',B.nd,fun a ha=> .inl ha⟩⟩
 |s::p,v,t,u,fp,w,h,nd,e,⟨x,sv,pv⟩=>by
  simp only [Tr.at_] at e
  cases es:t.sub s with
  |none=>rw [es] at e;cases e
  |some t1=>
   rw [es] at e
   have put_eq: ∀u',t.put (s::p) u'=t.put1 s (t1.put p u'):=fun u'=>by simp only [Tr.put,es]
   have core: ∀{vs:List V} {ts:List Tr} {f0:List Addr} {k:Nat} {a:Addr},fp=a::f0→bh K F H vs ts f0→ts[k]? =some t1→vs[k]? =some x→
     (∀F' H' t' fq',H' a=H a→F' a=Option.none→bh K F' H' vs (ts.set k t') fq'→cU K F' H' v (t.put1 s t') (a::fq'))→
     ∃fq,cU K F H w u fq∧fq.Nodup∧(∀a∈fq,a∈fp)∧ ∀F' H' u' fq',aea F H F' H' fp fq fq'→cU K F' H' w u' fq'→ ∃fp',cU K F' H' v (t.put (s::p) u') fp'∧fp'.Nodup∧(∀a∈fp',a∈fq'∨(a∈fp∧a∉fq)):=by
    intro vs ts f0 k a hfp L hk hx mk
    subst hfp
    rw [List.nodup_cons] at nd
    obtain ⟨v1,f1,g1,g2,g3,g4,g5⟩:=L.focus nd.2 hk
    rw [hx] at g1
    cases g1
    obtain ⟨fq,q1,q2,q3,q4⟩:=cU.focus g2 g3 e pv
    have na:a∉fq:=fun z=>nd.1 (g4 a (q3 a z))
    refine ⟨fq,q1,q2,fun b hb=>List.mem_cons_of_mem _ (g4 b (q3 b hb)),fun F' H' u' fq' B h'=> ?_⟩
    have B1:aea F H F' H' f1 fq fq':=⟨B.s,fun b hb n=>B.k b (List.mem_cons_of_mem _ (g4 b hb)) n,B.nd,fun b hb=>(B.new b hb).imp id fun z y=>z (List.mem_cons_of_mem _ (g4 b y))⟩
    obtain ⟨f1',r1,r2,r3⟩:=q4 F' H' u' fq' B1 h'
    have nf1: ∀b,b∈f1→b∈f0:=g4
    have B0:aea F H F' H' f0 f1 f1':=⟨B.s,fun b hb n=>B.k b (List.mem_cons_of_mem _ hb) fun z=>n (q3 b z),r2,fun b hb=>by
     rcases r3 b hb with z|z
     ·rcases B.new b z with y|y
      ·exact .inl (q3 b y)
      ·exact .inr fun y'=>y (List.mem_cons_of_mem _ y')
     ·exact .inl z.1⟩
    obtain ⟨f0',s1,s2,s3⟩:=g5 F' H' x (t1.put p u') f1' B0 r1
    have hset:vs.set k x=vs:=by
     apply List.ext_getElem?
     intro m
     by_cases hm:m=k
     ·subst hm;rw [List.getElem?_set_self (List.getElem?_eq_some_iff.mp hx).1,hx]
     ·rw [List.getElem?_set_ne fun z=>hm z.symm]
    rw [hset] at s1
    have ka:=B.k a (by simp) na
    refine ⟨a::f0',by rw [put_eq];exact mk F' H' _ _ ka.1 ka.2 s1, ?_,fun b hb=> ?_⟩
    ·rw [List.nodup_cons]
     refine ⟨fun z=> ?_,s2⟩
     rcases s3 a z with y|y
     ·rcases r3 a y with y|y
      ·rcases B.new a y with y|y
       ·exact na y
       ·exact y (by simp)
      ·exact nd.1 (g4 a y.1)
     ·exact nd.1 y.1
    ·rcases List.mem_cons.mp hb with z|z
     ·subst z;exact .inr ⟨by simp,na⟩
     ·rcases s3 b z with y|y
      ·rcases r3 b y with y|y
       ·exact .inl y
       ·exact .inr ⟨List.mem_cons_of_mem _ (g4 b y.1),y.2⟩
      ·exact .inr ⟨List.mem_cons_of_mem _ y.1,fun y'=>y.2 (q3 b y')⟩
   cases h with
   |sh r=>simp [Tr.sub] at es
   |dct=>simp [Tr.sub] at es
   |dtt=>simp [Tr.sub] at es
   |dn=>simp [Tr.sub] at es
   |hole=>simp [Tr.sub] at es
   |lst g n z L=>
    rename_i ws _ _
    cases s with
    |fld f=>simp [Tr.sub] at es
    |idx k=>
     obtain ⟨a',xs,z1,z2,z3⟩:=sv
     cases z1
     have:xs=ws:=by
      rcases z2 with z2|z2
      ·rw [g] at z2;cases z2;rfl
      ·rw [g] at z2;cases z2
     subst this
     exact core rfl L (by simpa [Tr.sub] using es) z3 fun F' H' t' fq' e1 e2 L'=> .lst (by rw [e1];exact g) e2 (by simpa using z) L'
   |tup g n z L=>
    rename_i ws _ _
    cases s with
    |fld f=>simp [Tr.sub] at es
    |idx k=>
     obtain ⟨a',xs,z1,z2,z3⟩:=sv
     cases z1
     have:xs=ws:=by
      rcases z2 with z2|z2
      ·rw [g] at z2;cases z2
      ·rw [g] at z2;cases z2;rfl
     subst this
     exact core rfl L (by simpa [Tr.sub] using es) z3 fun F' H' t' fq' e1 e2 L'=> .tup (by rw [e1];exact g) e2 (by simpa using z) L'
   |obj g n hk L=>
    cases s with
    |idx k=>simp [Tr.sub] at es
    |fld f=>
     obtain ⟨a',C,dx,fs,z1,z2,z3⟩:=sv
     cases z1
     rw [g] at z2
     cases z2
     have es':List.lookup f _=some t1:=es
     obtain ⟨k,k1,k2⟩:=qU es'
     exact core rfl L k2 (acu hk k1 z3) fun F' H' t' fq' e1 e2 L'=> .obj (by rw [e1];exact g) e2 (by rw [hk];exact (JP k1).symm) (by rw [yZ k1];exact L')
end
end DL
end
section
namespace DL
open PySem L2
variable[bG]
section
variable{K:PySem.W.Frag}{F H F' H':Hp}
theorem gU.xO(s:Same F F'): ∀{vs:List V} {ds:List D} {fp:List Addr},gU K F H vs ds fp→(∀a∈fp,H' a=H a∧F' a=Option.none)→gU K F' H' vs ds fp
 |_,_,_, .nil,_=> .nil
 |_,_,_, .sh r n q,m=> .sh (r.mono s) n (q.xO s m)
 |_,_,_, .ow h r z n q,m=> .ow (by rw [(m _ (by simp)).1];exact h) (r.mono s) z (m _ (by simp)).2 (q.xO s fun b hb=>m b (List.mem_cons_of_mem _ hb))
theorem Own.xO(s:Same F F'){v:V}{d:D}{fp:List Addr}(o:Own K F H v d fp)(m: ∀a∈fp,H' a=H a∧F' a=Option.none):Own K F' H' v d fp:=by
 cases o with
 |lst h r z n=>exact .lst (by rw [(m _ (by simp)).1];exact h) (r.mono s) z (m _ (by simp)).2
 |obj h r n=>exact .obj (by rw [(m _ (by simp)).1];exact h) (r.mono s) (m _ (by simp)).2
 |dct h k o r n=>exact .dct (by rw [(m _ (by simp)).1];exact h) k o (r.mono s) (m _ (by simp)).2
 |nct w h k b r n=>exact .nct w (by rw [(m _ (by simp)).1];exact h) k (b.mono s) (r.mono s) (m _ (by simp)).2
 |tup h q z n=>exact .tup (by rw [(m _ (by simp)).1];exact h) (q.xO s fun b hb=>m b (List.mem_cons_of_mem _ hb)) z (m _ (by simp)).2
theorem jt.xO{F0 H0:Hp}(s:Same F F'){x:Option V}{sl:Sl}{fp:List Addr}(h:jt K F0 H0 F H x sl fp)(m: ∀a∈fp,H' a=H a∧F' a=Option.none):jt K F0 H0 F' H' x sl fp:=by
 cases h with
 |no=>exact .no
 |sh r=>exact .sh (r.mono s)
 |bo r=>exact .bo r
 |bg r nn=>exact .bg r nn
 |dk h r f=>exact .dk (by rw [(m _ (by simp)).1];exact h) (r.mono s) (m _ (by simp)).2
 |nl h q z f=>exact .nl (by rw [(m _ (by simp)).1];exact h) (q.xO s fun b hb=>m b (List.mem_cons_of_mem _ hb)) z (m _ (by simp)).2
 |gn h q=>exact .gn (h.hh s m) q
 |ow o=>exact .ow (o.xO s m)
theorem bB.xO{F0 H0:Hp}(s:Same F F'): ∀{σ:L2.St} {ρ:Rh} {fps:List (List Addr)},bB K F0 H0 F H σ ρ fps→(∀a∈fps.flatten,H' a=H a∧F' a=none)→bB K F0 H0 F' H' σ ρ fps
 |_,_,_, .nil,_=> .nil
 |_,_,_, .cons q r,m=> .cons (q.xO s fun a ha=>m a (by rw [List.flatten_cons,List.mem_append];exact .inl ha)) (r.xO s fun a ha=>m a (by rw [List.flatten_cons,List.mem_append];exact .inr ha))
theorem Fp{α:Type}{l:List α}{i:Nat}{x:α}(h:l[i]? =some x):l.set i x=l:=by
 apply List.ext_getElem?
 intro m
 by_cases hm:m=i
 ·subst hm;rw [List.getElem?_set_self (List.getElem?_eq_some_iff.mp h).1,h]
 ·rw [List.getElem?_set_ne fun z=>hm z.symm]
theorem aqC{a:Addr}{fps:List (List Addr)}{i:Nat}{fp:List Addr}(nd:fps.flatten.Nodup)(h:fps[i]? =some fp)(ha:a∈fp):a∉(fps.set i []).flatten:=fun hm=>by
 obtain ⟨g,hg,hA⟩:=List.mem_flatten.mp hm
 obtain ⟨m,hmlt,hgm⟩:=List.mem_iff_getElem.mp hg
 have hne:m≠i:=by
  intro z
  subst z
  rw [List.getElem_set_self] at hgm
  rw [←hgm] at hA
  cases hA
 rw [List.getElem_set_ne (fun z=>hne z.symm)] at hgm
 have hm2:fps[m]? =some g:=by
  rw [List.getElem?_eq_some_iff]
  exact ⟨by simpa using hmlt,hgm⟩
 exact acn nd hm2 h hA ha hne
theorem bJ.Um{F0 H0:Hp}{σ:L2.St}{ρ:Rh}{fps:List (List Addr)}{i:Nat}{o:Option V}{t:Tr}(R:bJ K F0 H0 F H σ ρ fps)(hs:ρ[i]? =some (.gn o t)):
  ∃v fp,σ[i]? =some (some v)∧fps[i]? =some fp∧cU K F H v t fp∧(∀w,o=some w→v=w)∧fp.Nodup∧(∀a∈fp,H0 a=none)∧bJ K F0 H0 F H σ (ρ.set i .no) (fps.set i [])∧(∀a∈fp,a∉(fps.set i []).flatten):=by
 obtain ⟨x,fp,h1,h2,h3⟩:=R.s.get hs
 cases h3 with
 |gn h q=>
  have hm: ∀a∈fp,a∈fps.flatten:=fun a ha=>List.mem_flatten.mpr ⟨_,List.mem_of_getElem? h2,ha⟩
  rename_i vv
  have:=R.s.set (x:=some vv) (s:= .no) (fp:=[]) .no i
  rw [Fp h1] at this
  exact ⟨_,fp,h1,h2,h,q,R.p.nd.sublist (List.sublist_flatten_of_mem (List.mem_of_getElem? h2)),fun a ha=>R.p.new a (hm a ha),⟨R.x,this,R.p.set_nil i,R.b⟩,fun a ha=>aqC R.p.nd h2 ha⟩
theorem bJ.aCf{F0 H0:Hp}{σ:L2.St}{ρ:Rh}{fps:List (List Addr)}{i:Nat}{o:Option V}{t:Tr}{v:V}{fp:List Addr}(R:bJ K F0 H0 F H σ ρ fps)(h1:σ[i]? =some (some v))(h:cU K F H v t fp)(q: ∀w,o=some w→v=w)(nd:fp.Nodup)(n0: ∀a∈fp,H0 a=none)(nm: ∀a∈fp,a∉fps.flatten):
  bJ K F0 H0 F H σ (ρ.set i (.gn o t)) (fps.set i fp):=by
 have:=R.s.set (.gn h q) i
 rw [Fp h1] at this
 refine ⟨R.x,this,⟨m9 R.p.nd nd fun a ha hm=>nm a ha hm,fun a ha=> ?_⟩,R.b⟩
 rcases lO ha with z|z
 ·exact R.p.new a z
 ·exact n0 a z
theorem bJ.move{F0 H0:Hp}{σ:L2.St}{ρ:Rh}{fps:List (List Addr)}(R:bJ K F0 H0 F H σ ρ fps)(s:Same F F')(x:Ext F0 H0 F' H')(tb:pK F' H')(m: ∀a∈fps.flatten,H' a=H a∧F' a=none):bJ K F0 H0 F' H' σ ρ fps:=
 ⟨x,R.s.xO s m,R.p,tb⟩
theorem bJ.aeb{F0 H0:Hp}{σ:L2.St}{ρ:Rh}{fps:List (List Addr)}(R:bJ K F0 H0 F H σ ρ fps): ∀a∈fps.flatten,F a=none∧H a≠none:=oY R.s
structure Chg(F H F' H':Hp)(fq:List Addr):Prop where
 s:Same F F'
 w:Same F' H'
 k: ∀a,H a≠none→a∉fq→(∀ps,H a≠some (.tbl ps))→H' a=H a∧F' a=F a
 o: ∀a,H a≠none→a∉fq→F' a=F a
 t: ∀P q,(P,q)∈bG.T→LamX.TabS H P q→LamX.TabS H' P q
 u: ∀a,H a≠none→a∉fq→H' a≠none
 m:ScF F H→ScF F' H'
theorem NTb.t{H:Hp}{a:Addr}(h:NTb H a): ∀ps,H a≠some (.tbl ps):=fun ps q=>(h _ q).1 ps rfl
theorem Chg.adP{fq:List Addr}(c:Chg F H F' H' fq)(t:pK F H)(nt: ∀a∈fq,NTb H a):pK F' H':=⟨fun p hp=>c.t _ _ hp (t.1 p hp),fun p hp=>(c.o _ (aiK (t.1 p hp)) fun z=>by
 obtain ⟨ps,h,_⟩:=t.1 p hp
 exact (nt _ z _ h).1 ps rfl).trans (t.2.1 p hp),c.m t.2.2⟩
theorem Chg.x{F0 H0:Hp}{fq:List Addr}(c:Chg F H F' H' fq)(x:Ext F0 H0 F H)(n0: ∀a∈fq,H0 a=none):Ext F0 H0 F' H':=by
 have out: ∀b,H0 b≠none→b∉fq:=fun b hb z=>hb (n0 b z)
 refine ⟨x.f.trans c.s,fun b u hb nb=> ?_,c.w,fun b hb=> ?_,fun P q m t=>c.t P q m (x.t P q m t),fun b hb=>c.u b (x.s b hb) (out b hb),fun s=>c.m (x.m s)⟩
 ·have hH:=x.n b u hb nb
  rw [(c.k b (by rw [hH];simp) (out b (by rw [hb];simp)) (fun ps z=>nb ps (by rw [hH] at z;exact Option.some.inj z))).1]
  exact hH
 ·rw [c.o b (x.s b hb) (out b hb)]
  exact x.o b hb
theorem Chg.upd{a:Addr}{u:HO}{fq:List Addr}(w:Same F H)(nF:F a=none)(ha:a∈fq)(nt:NTb H a)(nk: ∀ks:List Key,u≠ .tup (ks.map kV):=by intro _ z;cases z):Chg F H F (L2.upd H a u) fq:=
 ⟨.refl F,fun b z hb=>by rw [upd_ne (ne_of_none hb nF)];exact w _ _ hb,fun b _ n _=>⟨upd_ne fun e=>n (e ▸ ha),rfl⟩,fun _ _ _=>rfl,fun P q _ t=>by
  cases z:H a with
  |none=>exact t.ext (aN z)
  |some w=>exact xj t z (nt w z).1 (nt w z).2,fun b hb n=>by
  rw [upd_ne (fun e=>n (by rw [e];exact ha))]
  exact hb,fun s=>s.upd nk⟩
theorem bJ.aED{F0 H0:Hp}{σ:L2.St}{ρ:Rh}{fps:List (List Addr)}{i:Nat}{o:Option V}{t u:Tr}{v w:V}{p:List Stp}(R:bJ K F0 H0 F H σ ρ fps)(hs:ρ[i]? =some (.gn o t))(h1:σ[i]? =some (some v))(e:t.at_ p=some u)(pv:oG H v p w):
  ∃fq,cU K F H w u fq∧fq.Nodup∧(∀a∈fq,H0 a=none)∧(∀a∈fq,a∈fps.flatten)∧ ∀F' H' u' fq',Chg F H F' H' fq→cU K F' H' w u' fq'→fq'.Nodup→(∀a∈fq',a∈fq∨(H0 a=none∧a∉fps.flatten))→ ∃fps',bJ K F0 H0 F' H' σ (ρ.set i (.gn o (t.put p u'))) fps':=by
 obtain ⟨v',fp,g1,g2,g3,g4,g5,g6,g7,g8⟩:=R.Um hs
 rw [h1] at g1
 cases g1
 obtain ⟨fq,q1,q2,q3,q4⟩:=g3.focus g5 e pv
 refine ⟨fq,q1,q2,fun a ha=>g6 a (q3 a ha),fun a ha=>List.mem_flatten.mpr ⟨_,List.mem_of_getElem? g2,q3 a ha⟩,fun F' H' u' fq' c T' nd' nw=> ?_⟩
 have B:aea F H F' H' fp fq fq':=⟨c.s,fun a ha n=>by
  obtain ⟨z1,z2⟩:=c.k a (g3.none a ha).2 n (g3.nt a ha).t
  exact ⟨z1,by rw [z2];exact (g3.none a ha).1⟩,nd',fun a ha=>(nw a ha).imp id fun z y=>z.2 (List.mem_flatten.mpr ⟨_,List.mem_of_getElem? g2,y⟩)⟩
 obtain ⟨fp',r1,r2,r3⟩:=q4 F' H' u' fq' B T'
 have x':=c.x R.x fun a ha=>g6 a (q3 a ha)
 have R0:=g7.move (F':=F') (H':=H') c.s x' (c.adP g7.b fun a ha=>g3.nt a (q3 a ha)) fun a ha=>by
  have th:=g7.aeb a ha
  obtain ⟨z1,z2⟩:=c.k a th.2 (fun z=>g8 a (q3 a z) ha) (Qy g7.s a ha).t
  exact ⟨z1,by rw [z2];exact th.1⟩
 have out: ∀a∈fp',H0 a=none∧a∉(fps.set i []).flatten:=fun a ha=>by
  rcases r3 a ha with z|z
  ·rcases nw a z with y|y
   ·exact ⟨g6 a (q3 a y),g8 a (q3 a y)⟩
   ·exact ⟨y.1,fun hm=>y.2 ((gH fps i).subset hm)⟩
  ·exact ⟨g6 a z.1,g8 a z.1⟩
 have R1:=R0.aCf (i:=i) h1 r1 g4 r2 (fun a ha=>(out a ha).1) (fun a ha=>(out a ha).2)
 rw [List.set_set] at R1
 exact ⟨_,R1⟩
end
def sH(i:Nat)(ρ:Rh)(P:Option V→Tr→Prop):Prop:=match ρ[i]? with|some (.gn o t)=>P o t|_=>False
theorem uH{i:Nat}{ρ:Rh}{P:Option V→Tr→Prop}(h:sH i ρ P): ∃o t,ρ[i]? =some (.gn o t)∧P o t:=by
 unfold sH at h
 split at h
 ·exact ⟨_,_,by assumption,h⟩
 ·exact h.elim
abbrev DP:=Rh→(Nat→List Stp→Tr→Prop)→Prop
def alY(ρ:Rh)(i:Nat)(t:Tr):Prop:=(∃o,ρ[i]? =some (.gn o t))∨ρ[i]? =some (.bg t)
def Br(i:Nat)(ρ:Rh)(P:Option V→Tr→Prop):Prop:=match ρ[i]? with|some (.gn o t)=>P o t|some (.bg t)=>P none t|_=>False
theorem Yu{i:Nat}{ρ:Rh}{P:Option V→Tr→Prop}(h:Br i ρ P): ∃o t,alY ρ i t∧P o t:=by
 unfold Br at h
 split at h
 ·exact ⟨_,_, .inl ⟨_,by assumption⟩,h⟩
 ·exact ⟨_,_, .inr (by assumption),h⟩
 ·exact h.elim
theorem bJ.aw7{K:PySem.W.Frag}{F0 H0 F H:Hp}{σ:L2.St}{ρ:Rh}{fps:List (List Addr)}{i:Nat}{t:Tr}(R:bJ K F0 H0 F H σ ρ fps)(h:alY ρ i t): ∃v fp,σ[i]? =some (some v)∧cU K F H v t fp∧fp.Nodup:=by
 rcases h with ⟨o,h⟩|h
 ·obtain ⟨v,fp,h1,_,h3,_,h5,_⟩:=R.Um h
  exact ⟨v,fp,h1,h3,h5⟩
 ·obtain ⟨x,fp,h1,_,h3⟩:=R.s.get h
  cases h3 with
  |bg q n=>exact ⟨_,_,h1,q.ext R.x,n⟩
def AtP(ρ:Rh)(σ:L2.St)(H:Hp)(i:Nat)(p:List Stp)(u:Tr)(w:V):Prop:= ∃t v,alY ρ i t∧t.at_ p=some u∧σ[i]? =some (some v)∧oG H v p w
theorem AtP.mono{ρ:Rh}{σ:L2.St}{H H':Hp}{i:Nat}{p:List Stp}{u:Tr}{w:V}(e:LamX.ExtN H H')(h:AtP ρ σ H i p u w):AtP ρ σ H' i p u w:=by
 obtain ⟨t,v,h1,h2,h3,h4⟩:=h
 exact ⟨t,v,h1,h2,h3,h4.mono e⟩
theorem AtP.rep{K:PySem.W.Frag}{F0 H0 F H:Hp}{ρ:Rh}{σ:L2.St}{fps:List (List Addr)}{i:Nat}{p:List Stp}{u:Tr}{w:V}(R:bJ K F0 H0 F H σ ρ fps)(h:AtP ρ σ H i p u w): ∃fq,cU K F H w u fq∧fq.Nodup:=by
 obtain ⟨t,v,h1,h2,h3,h4⟩:=h
 obtain ⟨v',fp,g1,g2,g3⟩:=R.aw7 h1
 rw [h3] at g1
 cases g1
 obtain ⟨fq,q,q2,_⟩:=g2.focus g3 h2 h4
 exact ⟨fq,q,q2⟩
def aCg(K:PySem.W.Frag)(F0 H0:Hp)(d:DP):TE:=fun σ H Q=> ∃F ρ fps P,bJ K F0 H0 F H σ ρ fps∧d ρ P∧ ∀i p u,P i p u→ ∀F' H' w,Ext F H F' H'→AtP ρ σ H' i p u w→Q w H'
abbrev LP(X:Cx)(F0 H0:Hp)(e:Expr)(d:DP):Prop:=PE X e (aCg X.K F0 H0 d)
section
variable{X:Cx}{F0 H0:Hp}{e a b c o:Expr}{pos p apos pos':Pos}
def aw8(i:Nat)(P:Nat→List Stp→Tr→Prop)(o:Option V)(t:Tr):Prop:=P i [] t
def dPl(i:Nat):DP:=fun ρ P=>Br i ρ (aw8 i P)
theorem o7{i:Nat}(h:PE X e (tVar i)):LP X F0 H0 e (dPl i):=peW h fun σ H Q ⟨F,ρ,fps,P,E,q,k⟩=>by
 obtain ⟨o,t,hs,q⟩:=Yu q
 obtain ⟨v,fp,h1,_⟩:=E.aw7 hs
 exact ⟨v,h1,k i [] t q F H v (.refl E.x.w) ⟨t,v,hs,rfl,h1,rfl⟩⟩
def alZ(T:Addr→Prop)(f:Str)(P:Nat→List Stp→Tr→Prop)(i:Nat)(p:List Stp)(u:Tr):Prop:=match u with| .obj C gs=>T C∧(match gs.lookup f with|some t=>P i (p++[.fld f]) t|none=>False)|_=>False
def aw9(T:Addr→Prop)(d:DP)(f:Str):DP:=fun ρ P=>d ρ (alZ T f P)
theorem aw_{T:Addr→Prop}{d:DP}{f:Str}(h:LP X F0 H0 e d)(hC: ∀C,T C→Cls X.K C∧NoAttr X.K C f)(hb:attributeBase e f X.env (eval e X.env)=eval e X.env:=by rfl):LP X F0 H0 (.Attribute e f pos) (aw9 T d f):=
 peW (pe_fld h hb) fun σ H Q ⟨F,ρ,fps,P,E,q,k⟩=>⟨F,ρ,fps,_,E,q,fun i p u hu F1 H1 w e1 at1=>by
  cases u<;>first|exact False.elim hu|skip
  rename_i C gs
  obtain ⟨hT,hu⟩:=hu
  obtain ⟨c,n⟩:=hC C hT
  obtain ⟨fq,r,ndr⟩:=at1.rep (E.ext e1)
  cases hl:gs.lookup f with
  |none=>rw [hl] at hu;exact False.elim hu
  |some t=>
   rw [hl] at hu
   cases r with
   |obj g nF hk L=>
    rename_i a dx vs _
    obtain ⟨m,m1,m2⟩:=qU hl
    have hlen:=L.length
    obtain ⟨x,hx⟩: ∃x,(vs.map (·.2))[m]? =some x:=by
     have:m<(vs.map (·.2)).length:=by
      rw [hlen]
      exact (List.getElem?_eq_some_iff.mp m2).1
     exact ⟨_,List.getElem?_eq_getElem this⟩
    have hv:=Bs hk m1 hx
    refine ⟨a,C,dx,vs,x,rfl,g,c,n,hv,k i _ t hu F1 H1 x e1 ?_⟩
    obtain ⟨T',v,h1,h2,h3,h4⟩:=at1
    exact ⟨T',v,h1,Tr.agJ (by simpa [Tr.sub] using hl) h2,h3,oG.snoc (s:= .fld f) (show zW H1 (.ref a) (.fld f) x from ⟨a,C,dx,vs,rfl,g,hv⟩) h4⟩⟩
def Yv(P:Nat→List Stp→Tr→Prop)(i:Nat)(p:List Stp)(u:Tr)(k:D):Prop:=match u,k with
 | .lst ts, .int n=>0≤n∧(match ts[n.toNat]? with|some t=>P i (p++[.idx n.toNat]) t|none=>False)
 | .tup ts, .int n=>0≤n∧(match ts[n.toNat]? with|some t=>P i (p++[.idx n.toNat]) t|none=>False)
 |_,_=>False
def al0(dk:DE)(ρ:Rh)(P:Nat→List Stp→Tr→Prop)(i:Nat)(p:List Stp)(u:Tr):Prop:=dk ρ (Yv P i p u)
def aEE(d:DP)(dk:DE):DP:=fun ρ P=>d ρ (al0 dk ρ P)
def al1(P:D→Prop)(i:Nat)(p:List Stp)(u:Tr):Prop:=match u with| .sh x=>P x|_=>False
def axa(d:DP):DE:=fun ρ P=>d ρ (al1 P)
theorem aCh{d:DP}(h:LP X F0 H0 e d):LE X F0 H0 e (axa d):=peW h fun σ H Q ⟨F,ρ,fps,P,E,q,k⟩=>⟨F,ρ,fps,_,E,q,fun i p u hu F1 H1 w e1 at1=>by
 cases u<;>first|exact False.elim hu|skip
 obtain ⟨fq,r,ndr⟩:=at1.rep (E.ext e1)
 cases r with
 |sh r=>exact k _ hu F1 H1 w e1 r⟩
def shL:List Tr→Option (List D)
 |[]=>some []
 | .sh d::r=>(shL r).map (d:: ·)
 |_::_=>none
theorem agK(xs:List D):shL (xs.map Tr.sh)=some xs:=by
 induction xs with
 |nil=>rfl
 |cons x xs ih=>simp [shL,ih]
theorem Uo: ∀{ts:List Tr} {xs:List D},shL ts=some xs→ts=xs.map Tr.sh
 |[],xs,h=>by simp [shL] at h;subst h;rfl
 |t::r,xs,h=>by
  cases t<;>simp only [shL,reduceCtorEq] at h
  cases e:shL r with
  |none=>rw [e] at h;cases h
  |some ys=>
   rw [e] at h
   simp at h
   subst h
   rw [Uo e]
   rfl
theorem bh.sh{K:PySem.W.Frag}{F H:Hp}: ∀{vs:List V} {xs:List D} {fp:List Addr},bh K F H vs (xs.map Tr.sh) fp→fp=[]∧aY K F vs xs
 |_,[],_,h=>by cases h;exact ⟨rfl, .nil⟩
 |_,x::xs,_,h=>by
  cases h with
  |cons h r=>
   cases h with
   |sh h=>
    obtain ⟨e,q⟩:=bh.sh r
    subst e
    exact ⟨rfl, .cons h q⟩
theorem aY.toT{K:PySem.W.Frag}{F H:Hp}: ∀{vs:List V} {xs:List D},aY K F vs xs→bh K F H vs (xs.map Tr.sh) []
 |_,_, .nil=> .nil
 |_,_, .cons h r=>bh.cons (.sh h) (aY.toT r)
theorem jN.split{K:PySem.W.Frag}{F:Hp}: ∀{vs:List (Str×V)} {gs:List (Str×D)},jN K F vs gs→vs.map (·.1)=gs.map (·.1)∧aY K F (vs.map (·.2)) (gs.map (·.2))
 |_,_, .nil=>⟨rfl, .nil⟩
 |_,_, .cons h r=>by
  obtain ⟨h1,h2⟩:=jN.split r
  exact ⟨by simp [h1], .cons h h2⟩
theorem jN.join{K:PySem.W.Frag}{F:Hp}: ∀{vs:List (Str×V)} {gs:List (Str×D)},vs.map (·.1)=gs.map (·.1)→aY K F (vs.map (·.2)) (gs.map (·.2))→jN K F vs gs
 |[],[],_,_=> .nil
 |[],_::_,h,_=>by simp at h
 |_::_,[],h,_=>by simp at h
 |(f,v)::vs,(g,d)::gs,h,r=>by
  simp only [List.map_cons,List.cons.injEq] at h
  obtain ⟨rfl,h⟩:=h
  cases r with
  |cons r rs=>exact .cons r (jN.join h rs)
def Tr.flat:Tr→Option D
 | .sh d=>some d
 | .lst ts=>(shL ts).map .lst
 | .obj C gs=>(shL (gs.map (·.2))).map fun xs=> .obj C ((gs.map (·.1)).zip xs)
 | .dct ks=>(shL (ks.map (·.2))).map fun xs=> .dct ((ks.map (·.1)).zip xs)
 | .dn ks=>some (.nct ks)
 |_=>none
theorem cU.flat{K:PySem.W.Frag}{F H:Hp}{v:V}{t:Tr}{x:D}{fp:List Addr}(h:cU K F H v t fp)(e:t.flat=some x):jR K F H v x:=by
 cases h with
 |sh r=>simp [Tr.flat] at e;subst e;exact .inl r
 |lst g n z L=>
  simp only [Tr.flat,Option.map_eq_some_iff] at e
  obtain ⟨xs,e,rfl⟩:=e
  rw [Uo e] at L
  refine .inr ⟨_, .lst g L.sh.2 ?_ n,trivial⟩
  rw [Uo e] at z
  simpa using z
 |obj g n hk L=>
  simp only [Tr.flat,Option.map_eq_some_iff] at e
  obtain ⟨xs,e,rfl⟩:=e
  rw [Uo e] at L
  have r:=L.sh.2
  refine .inr ⟨_, .obj g (jN.join ?_ ?_) n,trivial⟩
  ·rw [hk,List.map_fst_zip]
   have:=r.length
   rw [List.length_map] at this
   have h2:=congrArg List.length hk
   simp only [List.length_map] at h2 ⊢
   omega
  ·rw [List.map_snd_zip]
   ·exact r
   ·have:=r.length
    rw [List.length_map] at this
    have h2:=congrArg List.length hk
    simp only [List.length_map] at h2 ⊢
    omega
 |dn w g n hk b r=>
  simp only [Tr.flat,Option.some.injEq] at e
  subst e
  exact .inr ⟨_, .nct w g hk b r n,trivial⟩
 |dct g n hk o L=>
  simp only [Tr.flat,Option.map_eq_some_iff] at e
  obtain ⟨xs,e,rfl⟩:=e
  rw [Uo e] at L
  have r:=L.sh.2
  have hl:=r.length
  rw [List.length_map] at hl
  have h2:=congrArg List.length hk
  simp only [List.length_map] at h2
  refine .inr ⟨_, .dct g ?_ (fun p hp=> ?_) ?_ n,trivial⟩
  ·rw [hk]
   have: ∀(ks:List (KD×Tr)) (xs:List D),ks.length≤xs.length→((ks.map (·.1)).zip xs).map (fun p=>kOf p.1)=ks.map fun p=>kOf p.1:=by
    intro ks
    induction ks with
    |nil=>intro xs _;rfl
    |cons p r ih=>
     intro xs h
     cases xs with
     |nil=>simp at h
     |cons x xs=>simp [ih xs (by simpa using h)]
   exact (this _ _ (by omega)).symm
  ·have:=(List.of_mem_zip (a:=p.1) (b:=p.2) hp).1
   obtain ⟨q,hq,e⟩:=List.mem_map.mp this
   rw [←e]
   exact o q hq
  ·rw [List.map_snd_zip]
   ·exact r
   ·simp only [List.length_map]
    omega
 |_=>simp [Tr.flat] at e
def acv(P:D→Prop)(i:Nat)(p:List Stp)(u:Tr):Prop:=match u.flat with|some x=>P x|none=>False
def ahS(d:DP):DE:=fun ρ P=>d ρ (acv P)
theorem agL{d:DP}(h:LP X F0 H0 e d):LB X F0 H0 e (ahS d):=peW h fun σ H Q ⟨F,ρ,fps,P,E,q,k⟩=>⟨F,ρ,fps,_,E,q,fun i p u hu F1 H1 w e1 at1=>by
 unfold acv at hu
 obtain ⟨fq,r,ndr⟩:=at1.rep (E.ext e1)
 split at hu
 ·rename_i x hx
  exact k _ hu F1 H1 w e1 (r.flat hx)
 ·exact hu.elim⟩
end
end DL
end
section
namespace DL
open PySem L2
variable[bG]
abbrev DTr:=Rh→(Tr→Prop)→Prop
def aCi(K:PySem.W.Frag)(F0 H0:Hp)(d:DTr):TE:=fun σ H Q=> ∃F ρ fps P,bJ K F0 H0 F H σ ρ fps∧d ρ P∧ ∀t,P t→ ∀F' H' v fp,Ext F H F' H'→cU K F' H' v t fp→fp.Nodup→(∀a∈fp,H a=none)→Q v H'
abbrev LTr(X:Cx)(F0 H0:Hp)(e:Expr)(d:DTr):Prop:=PE X e (aCi X.K F0 H0 d)
def ofD:D→Tr
 | .lst xs=> .lst (xs.map .sh)
 | .obj C gs=> .obj C (gs.map fun p=>(p.1, .sh p.2))
 | .dct ks=> .dct (ks.map fun p=>(p.1, .sh p.2))
 | .nct ks=> .dn ks
 |d=> .sh d
theorem Own.toT{K:PySem.W.Frag}{F H:Hp}{v:V}{d:D}{fp:List Addr}(o:Own K F H v d fp)(nt:Qn d):cU K F H v (ofD d) fp:=by
 cases o with
 |lst h r z n=>exact .lst h n (by simpa using z) r.toT
 |obj h r n=>
  obtain ⟨h1,h2⟩:=r.split
  refine .obj h n (by rw [h1];simp) ?_
  have:=h2.toT (H:=H)
  rw [List.map_map] at this ⊢
  exact this
 |nct w h k b r n=>exact .dn w h n k b r
 |dct h k o r n=>
  refine .dct h n (by rw [k];simp) (fun p hp=> ?_) ?_
  ·obtain ⟨q,hq,rfl⟩:=List.mem_map.mp hp
   exact o q hq
  ·have:=r.toT (H:=H)
   rw [List.map_map] at this ⊢
   exact this
 |tup=>exact nt.elim
section
variable{X:Cx}{F0 H0:Hp}{e a b c o:Expr}{pos p apos pos':Pos}
def axb(P:Tr→Prop)(x:D):Prop:=P (.sh x)
def ahT(d:DE):DTr:=fun ρ P=>d ρ (axb P)
theorem agM{d:DE}(h:LE X F0 H0 e d):LTr X F0 H0 e (ahT d):=peW h fun σ H Q ⟨F,ρ,fps,P,E,q,k⟩=>⟨F,ρ,fps,_,E,q,fun x hx F1 H1 v e1 r1=>k _ hx F1 H1 v [] e1 (.sh r1) (by simp) (by simp)⟩
def axc(P:Tr→Prop)(x:D):Prop:=Qn x∧P (ofD x)
def axd(d:DE):DTr:=fun ρ P=>d ρ (axc P)
theorem aCj{d:DE}(h:LN X F0 H0 e d):LTr X F0 H0 e (axd d):=peW h fun σ H Q ⟨F,ρ,fps,P,E,q,k⟩=>⟨F,ρ,fps,_,E,q,fun x hx F1 H1 v fp e1 o nd nf=>k _ hx.2 F1 H1 v fp e1 (o.toT hx.1) nd nf⟩
theorem bJ.acw{K:PySem.W.Frag}{F H:Hp}{σ:L2.St}{ρ:Rh}{fps:List (List Addr)}{v:V}{t:Tr}{fp:List Addr}(R:bJ K F0 H0 F H σ ρ fps)(h:cU K F H v t fp)(nd:fp.Nodup)(n0: ∀a∈fp,H0 a=none∧a∉fps.flatten)(i:Nat):
  bJ K F0 H0 F H (σ.set i (some v)) (ρ.set i (.gn none t)) (fps.set i fp):=by
 refine ⟨R.x,R.s.set (.gn h fun w z=>by cases z) i,⟨m9 R.p.nd nd fun a ha hm=>(n0 a ha).2 hm,fun a ha=> ?_⟩,R.b⟩
 rcases lO ha with z|z
 ·exact R.p.new a z
 ·exact (n0 a z).1
theorem bJ.fresh{K:PySem.W.Frag}{F H:Hp}{σ:L2.St}{ρ:Rh}{fps:List (List Addr)}(R:bJ K F0 H0 F H σ ρ fps){a:Addr}(h:H a=none):H0 a=none∧a∉fps.flatten:=⟨R.x.free h,fun hm=>(R.aeb a hm).2 h⟩
def al2(i:Nat)(E:DEn)(ρ:Rh)(t:Tr):Prop:=iw i (.gn none t) ρ E.nx
def Yw(i:Nat)(d:DTr):DS:=fun E ρ=>d ρ (al2 i E ρ)
theorem P0{i:Nat}{tg:Expr}{d:DTr}(h: ∀te,PE X e te→PS X (.Assign [tg] e pos) (tAsg te (gName i)))(he:LTr X F0 H0 e d):LS X F0 H0 (.Assign [tg] e pos) (Yw i d):=
 psW (h _ he) fun D σ H ⟨F,ρ,fps,E,R,q,k⟩=>⟨F,ρ,fps,_,R,q,fun t ht F1 H1 v fp e1 r nd nf=>k.nx F1 H1 _ _ _ e1.f ((R.ext e1).acw r nd (fun a ha=>R.fresh (nf a ha)) i) ht⟩
def aec(i:Nat)(p:List Stp)(u:Tr)(ρ:Rh)(P:Rh→Prop)(o:Option V)(t:Tr):Prop:=iw i (.gn o (t.put p u)) ρ P
def kJ(i:Nat)(p:List Stp)(u:Tr)(ρ:Rh)(P:Rh→Prop):Prop:=sH i ρ (aec i p u ρ P)
theorem Uq{i:Nat}{p:List Stp}{u:Tr}{ρ:Rh}{P:Rh→Prop}(h:kJ i p u ρ P): ∃o t,ρ[i]? =some (.gn o t):=by
 obtain ⟨o,t,h,_⟩:=uH h
 exact ⟨o,t,h⟩
theorem bJ.axe{K:PySem.W.Frag}{F H:Hp}{σ:L2.St}{ρ:Rh}{fps:List (List Addr)}{i:Nat}{p:List Stp}{u:Tr}{w:V}(R:bJ K F0 H0 F H σ ρ fps)(h:AtP ρ σ H i p u w)(hg: ∃o t,ρ[i]? =some (.gn o t)):
  ∃fq,cU K F H w u fq∧fq.Nodup∧(∀a∈fq,H0 a=none)∧(∀a∈fq,a∈fps.flatten)∧ ∀F' H' u' fq',Chg F H F' H' fq→cU K F' H' w u' fq'→fq'.Nodup→(∀a∈fq',a∈fq∨(H0 a=none∧a∉fps.flatten))→ ∀P,kJ i p u' ρ P→ ∃ρ' fps',P ρ'∧bJ K F0 H0 F' H' σ ρ' fps':=by
 obtain ⟨t,v,h1,h2,h3,h4⟩:=h
 obtain ⟨o,h1⟩: ∃o,ρ[i]? =some (.gn o t):=by
  rcases h1 with h1|h1
  ·exact h1
  ·obtain ⟨o,t',hg⟩:=hg
   rw [h1] at hg
   cases hg
 obtain ⟨fq,q1,q2,q3,q5,q4⟩:=R.aED h1 h3 h2 h4
 refine ⟨fq,q1,q2,q3,q5,fun F' H' u' fq' c T nd nw P hp=> ?_⟩
 obtain ⟨fps',R'⟩:=q4 F' H' u' fq' c T nd nw
 unfold kJ sH at hp
 rw [h1] at hp
 exact ⟨_,fps',hp,R'⟩
def aed(E:DEn)(ρ:Rh)(i:Nat)(p:List Stp)(ts:List Tr)(y:D):Prop:=ts.length<sizeLine∧kJ i p (.lst (ts++[.sh y])) ρ E.nx
def aee(da:DE)(E:DEn)(ρ:Rh)(i:Nat)(p:List Stp)(u:Tr):Prop:=match u with| .lst ts=>da ρ (aed E ρ i p ts)|_=>False
def axf(d:DP)(da:DE):DS:=fun E ρ=>d ρ (aee da E ρ)
theorem bh.app{K:PySem.W.Frag}{F H:Hp}{v:V}{y:D}(r:Rep K F v y): ∀{vs:List V} {ts:List Tr} {fp:List Addr},bh K F H vs ts fp→bh K F H (vs++[v]) (ts++[.sh y]) fp
 |_,_,_, .nil=>bh.cons (.sh r) .nil
 |_,_,_, .cons h q=> .cons h (q.app r)
theorem bh.snoc{K:PySem.W.Frag}{F H:Hp}{v:V}{t:Tr}{fp:List Addr}(h:cU K F H v t fp): ∀{vs:List V} {ts:List Tr} {fq:List Addr},bh K F H vs ts fq→bh K F H (vs++[v]) (ts++[t]) (fq++fp)
 |_,_,_, .nil=>by
  have:=bh.cons h .nil
  simpa using this
 |_,_,_, .cons g r=>by
  have:=bh.cons g (r.snoc h)
  simpa [List.append_assoc] using this
theorem Ur{f:Str}{u:Tr}: ∀{gs:List (Str×Tr)},fj f gs=none→zE f u gs=gs++[(f,u)]
 |[],_=>rfl
 |(g,t)::r,h=>by
  unfold fj at h
  unfold zE
  split at h
  ·cases h
  ·rename_i e
   rw [if_neg e,Ur (by simpa using h)]
   rfl
theorem K7{f:Str}{u:V}: ∀{vs:List (Str×V)} {gs:List (Str×Tr)},vs.map (·.1)=gs.map (·.1)→fj f gs=none→putF f u vs=vs++[(f,u)]
 |[],[],_,_=>rfl
 |[],_::_,e,_=>by simp at e
 |_::_,[],e,_=>by simp at e
 |(g',w)::vs,(g,t)::r,e,h=>by
  simp only [List.map_cons,List.cons.injEq] at e
  obtain ⟨rfl,e⟩:=e
  unfold fj at h
  unfold putF
  split at h
  ·cases h
  ·rename_i z
   rw [if_neg fun y=>z y.symm,K7 e (by simpa using h)]
   rfl
theorem bh.putF{K:PySem.W.Frag}{F H F' H':Hp}{vs:List (Str×V)}{gs:List (Str×Tr)}{f0 fp:List Addr}{f:Str}{v:V}{t:Tr}(L:bh K F H (vs.map (·.2)) (gs.map (·.2)) f0)(hk:vs.map (·.1)=gs.map (·.1))(nd0:f0.Nodup)(s:Same F F')(m: ∀a∈f0,H' a=H a∧F' a=Option.none)
  (T:cU K F' H' v t fp) (nd:fp.Nodup) (dj: ∀a∈fp,a∉f0): ∃f1,(L2.putF f v vs).map (·.1)=(zE f t gs).map (·.1)∧bh K F' H' ((L2.putF f v vs).map (·.2)) ((zE f t gs).map (·.2)) f1∧f1.Nodup∧ ∀a∈f1,a∈fp∨a∈f0:=by
 cases e:fj f gs with
 |none=>
  rw [Ur e,K7 hk e]
  refine ⟨f0++fp,by simp [hk], ?_, ?_,fun a ha=>(List.mem_append.mp ha).symm⟩
  ·rw [List.map_append,List.map_append]
   exact (L.hh s m).snoc T
  ·rw [List.nodup_append]
   exact ⟨nd0,nd,fun a ha b hb z=>dj b hb (z ▸ ha)⟩
 |some k=>
  obtain ⟨h1,h2⟩:=Yt (v:=v) hk e
  rw [h1,h2,JP e,yZ e]
  have hlt:k<(gs.map (·.2)).length:=by
   have:=yZ (u:=t) e
   rcases Nat.lt_or_ge k (gs.map (·.2)).length with z|z
   ·exact z
   ·exfalso
    have: ∀{gs:List (Str×Tr)} {k:Nat},fj f gs=some k→k<gs.length:=by
     intro gs
     induction gs with
     |nil=>intro k h;simp [fj] at h
     |cons p r ih=>
      intro k h
      obtain ⟨g,t⟩:=p
      unfold fj at h
      split at h
      ·simp at h;subst h;simp
      ·simp only [Option.map_eq_some_iff] at h
       obtain ⟨j,hj,rfl⟩:=h
       have:=ih hj
       simp;omega
    have:=this e
    simp at z
    omega
  obtain ⟨w,fq,q1,q2,q3,q4,q5⟩:=L.focus nd0 (List.getElem?_eq_getElem hlt)
  obtain ⟨f1,r1,r2,r3⟩:=q5 F' H' v t fp ⟨s,fun a ha _=>m a ha,nd,fun a ha=> .inr (dj a ha)⟩ T
  exact ⟨f1,rfl,r1,r2,fun a ha=>(r3 a ha).imp id (·.1)⟩
def al3(T:Addr→Prop)(f:Str)(t:Tr)(E:DEn)(ρ:Rh)(i:Nat)(p:List Stp)(u:Tr):Prop:=match u with| .obj C gs=>(T C∧gs.length<1000)∧kJ i p (.obj C (zE f t gs)) ρ E.nx|_=>False
def al4(T:Addr→Prop)(dp:DP)(f:Str)(E:DEn)(ρ:Rh)(t:Tr):Prop:=dp ρ (al3 T f t E ρ)
def JQ(T:Addr→Prop)(dp:DP)(f:Str)(d:DTr):DS:=fun E ρ=>d ρ (al4 T dp f E ρ)
theorem Fq{T:Addr→Prop}{dp:DP}{f:Str}{d:DTr}(ho:LP X F0 H0 o dp)(ha:LTr X F0 H0 a d)(hT: ∀C,T C→Cls X.K C∧NoAttr X.K C f)(hs:swapsWith a (some (.Attribute o f pos')) pos.line X.env=pure false:=by rfl):
  LS X F0 H0 (.Assign [.Attribute o f pos'] a pos) (JQ T dp f d):=
 psW (ps_fld ho ha hs) fun D σ H ⟨F,ρ,fps,E,R,q,k⟩=>⟨F,ρ,fps,_,R,q,fun t ht F1 H1 v fp e1 r nd nf=>⟨F1,ρ,fps,_,R.ext e1,ht,fun i p u hu F2 H2 w e2 at2=>by
  have R2:=(R.ext e1).ext e2
  cases u<;>first|exact False.elim hu|skip
  rename_i C gs
  obtain ⟨⟨hC,hl⟩,hu⟩:=hu
  obtain ⟨c,n⟩:=hT C hC
  have r2:=r.ext e2
  obtain ⟨fq,q1,q2,q3,q5,q4⟩:=R2.axe at2 (Uq hu)
  cases q1 with
  |obj g nF hk L=>
   rename_i A dx vs f0
   rw [List.nodup_cons] at q2
   have fr: ∀b∈fp,H0 b=none∧b∉fps.flatten:=fun b hb=>R.fresh (nf b hb)
   have nA:A∉fp:=fun z=>(fr A z).2 (q5 A (by simp))
   have m: ∀b∈f0,upd H2 A (HO.ins C dx (putF f v vs)) b=H2 b∧F2 b=none:=fun b hb=>⟨upd_ne fun e=>q2.1 (by rw [←e];exact hb),(bh.none L b hb).1⟩
   obtain ⟨f1,h1,h2,h3,h4⟩:=L.putF (f:=f) hk q2.2 (.refl F2) m (r2.t_ nA) nd fun b hb z=>(fr b hb).2 (q5 b (List.mem_cons_of_mem _ z))
   obtain ⟨ρ',fps',hp,R'⟩:=q4 F2 _ _ _ (.upd (u:= .ins C dx (putF f v vs)) R2.x.w nF (by simp) (.of g)) (.obj upd_same nF h1 h2) (List.nodup_cons.mpr ⟨fun z=>by
    rcases h4 A z with y|y
    ·exact nA y
    ·exact q2.1 y,h3⟩) (fun b hb=>by
    rcases List.mem_cons.mp hb with y|y
    ·subst y;exact .inl (by simp)
    ·rcases h4 b y with y|y
     ·exact .inr (fr b y)
     ·exact .inl (List.mem_cons_of_mem _ y)) _ hu
   refine ⟨A,C,dx,vs,rfl,g,c,n, ?_,k.nx F2 _ _ _ _ (e1.f.trans e2.f) R' hp⟩
   have:=congrArg List.length hk
   simp only [List.length_map] at this
   omega⟩⟩
def al5(i:Nat)(p:List Stp)(ts:List Tr)(t:Tr)(E:DEn)(ρ:Rh)(y:D):Prop:=match y with| .int k=>(0≤k∧k<ts.length)∧kJ i p (.lst (ts.set k.toNat t)) ρ E.nx|_=>False
def al6(di:DE)(t:Tr)(E:DEn)(ρ:Rh)(i:Nat)(p:List Stp)(u:Tr):Prop:=match u with| .lst ts=>di ρ (al5 i p ts t E ρ)|_=>False
def al7(dp:DP)(di:DE)(E:DEn)(ρ:Rh)(t:Tr):Prop:=dp ρ (al6 di t E ρ)
def aCk(dp:DP)(di:DE)(d:DTr):DS:=fun E ρ=>d ρ (al7 dp di E ρ)
mutual
def Tr.data:Tr→Option D
 | .sh d=>some d
 | .lst ts=>(qK ts).map .lst
 | .tup ts=>(qK ts).map .tup
 | .obj C fs=>(xQ fs).map (.obj C)
 | .dct ks=>(Us ks).map .dct
 | .dtt _=>none
 | .dn ks=>some (.nct ks)
 | .hole=>none
def Us:List (KD×Tr)→Option (List (KD×D))
 |[]=>some []
 |(f,t)::r=>match t.data with|some x=>(Us r).map ((f,x):: ·)|none=>none
def qK:List Tr→Option (List D)
 |[]=>some []
 |t::r=>match t.data with|some x=>(qK r).map (x:: ·)|none=>none
def xQ:List (Str×Tr)→Option (List (Str×D))
 |[]=>some []
 |(f,t)::r=>match t.data with|some x=>(xQ r).map ((f,x):: ·)|none=>none
end
def Bt(F H:Hp)(L:List Addr):Hp:=fun a=>if a∈L then H a else F a
theorem K8: ∀{fs:List (Str×Tr)} {gs:List (Str×D)},xQ fs=some gs→gs.map (·.1)=fs.map (·.1)∧qK (fs.map (·.2))=some (gs.map (·.2))
 |[],gs,h=>by simp [xQ] at h;subst h;exact ⟨rfl,rfl⟩
 |(f,t)::r,gs,h=>by
  unfold xQ at h
  cases e:t.data with
  |none=>rw [e] at h;cases h
  |some x=>
   rw [e] at h
   simp only [Option.map_eq_some_iff] at h
   obtain ⟨ys,hy,rfl⟩:=h
   obtain ⟨h1,h2⟩:=K8 hy
   exact ⟨by simp [h1],by simp [qK,e,h2]⟩
theorem K9: ∀{fs:List (KD×Tr)} {gs:List (KD×D)},Us fs=some gs→gs.map (·.1)=fs.map (·.1)∧qK (fs.map (·.2))=some (gs.map (·.2))
 |[],gs,h=>by simp [Us] at h;subst h;exact ⟨rfl,rfl⟩
 |(f,t)::r,gs,h=>by
  unfold Us at h
  cases e:t.data with
  |none=>rw [e] at h;cases h
  |some x=>
   rw [e] at h
   simp only [Option.map_eq_some_iff] at h
   obtain ⟨ys,hy,rfl⟩:=h
   obtain ⟨h1,h2⟩:=K9 hy
   exact ⟨by simp [h1],by simp [qK,e,h2]⟩
theorem JR: ∀{ts:List Tr} {xs:List D},qK ts=some xs→xs.length=ts.length
 |[],xs,h=>by simp [qK] at h;subst h;rfl
 |t::r,xs,h=>by
  unfold qK at h
  cases e:t.data with
  |none=>rw [e] at h;cases h
  |some x=>
   rw [e] at h
   simp only [Option.map_eq_some_iff] at h
   obtain ⟨ys,hy,rfl⟩:=h
   simp [JR hy]
theorem al8(xs:List D):qK (xs.map Tr.sh)=some xs:=by
 induction xs with
 |nil=>rfl
 |cons x xs ih=>simp [qK,Tr.data,ih]
mutual
theorem cU.frz{K:PySem.W.Frag}{F H:Hp}{L:List Addr}(s:Same F (Bt F H L)): ∀{v:V} {t:Tr} {fp:List Addr} {x:D},cU K F H v t fp→(∀a∈fp,a∈L)→t.data=some x→Rep K (Bt F H L) v x
 |_,_,_,_, .sh r,_,e=>by simp [Tr.data] at e;subst e;exact r.mono s
 |_,_,_,_, .lst g n z q,m,e=>by
  simp only [Tr.data,Option.map_eq_some_iff] at e
  obtain ⟨xs,e,rfl⟩:=e
  exact .lst (.of (by unfold Bt;rw [if_pos (m _ (by simp))];exact g)) (by rw [JR e];exact z) (bh.frz s q (fun b hb=>m b (List.mem_cons_of_mem _ hb)) e)
 |_,_,_,_, .tup g n z q,m,e=>by
  simp only [Tr.data,Option.map_eq_some_iff] at e
  obtain ⟨xs,e,rfl⟩:=e
  exact .tup (.inl (.inl (by unfold Bt;rw [if_pos (m _ (by simp))];exact g))) (by rw [JR e];exact z) (bh.frz s q (fun b hb=>m b (List.mem_cons_of_mem _ hb)) e)
 |_,_,_,_, .obj g n hk q,m,e=>by
  simp only [Tr.data,Option.map_eq_some_iff] at e
  obtain ⟨xs,e,rfl⟩:=e
  obtain ⟨h1,h2⟩:=K8 e
  exact .obj (by unfold Bt;rw [if_pos (m _ (by simp))];exact g) (jN.join (by rw [hk,h1]) (bh.frz s q (fun b hb=>m b (List.mem_cons_of_mem _ hb)) h2))
 |_,_,_,_, .dct g n hk o q,m,e=>by
  simp only [Tr.data,Option.map_eq_some_iff] at e
  obtain ⟨xs,e,rfl⟩:=e
  obtain ⟨h1,h2⟩:=K9 e
  rename_i ks _
  have h3:xs.map (fun p=>kOf p.1)=ks.map (fun p=>kOf p.1):=by
   have:=congrArg (List.map kOf) h1
   rw [List.map_map,List.map_map] at this
   exact this
  refine .dct (by unfold Bt;rw [if_pos (m _ (by simp))];exact g) (by rw [hk];exact h3.symm) (fun p hp=> ?_) (bh.frz s q (fun b hb=>m b (List.mem_cons_of_mem _ hb)) h2)
  have:p.1∈xs.map (·.1):=List.mem_map.mpr ⟨p,hp,rfl⟩
  rw [h1] at this
  obtain ⟨r,hr,e⟩:=List.mem_map.mp this
  rw [←e]
  exact o r hr
 |_,_,_,_, .dtt ..,_,e=>by simp [Tr.data] at e
 |_,_,_,_, .dn w g n hk b r,m,e=>by
  simp only [Tr.data,Option.some.injEq] at e
  subst e
  exact .nct w (by unfold Bt;rw [if_pos (m _ (by simp))];exact g) hk (b.mono s) (r.mono s)
 |_,_,_,_, .hole,_,e=>by simp [Tr.data] at e
theorem bh.frz{K:PySem.W.Frag}{F H:Hp}{L:List Addr}(s:Same F (Bt F H L)): ∀{vs:List V} {ts:List Tr} {fp:List Addr} {xs:List D},bh K F H vs ts fp→(∀a∈fp,a∈L)→qK ts=some xs→aY K (Bt F H L) vs xs
 |_,_,_,_, .nil,_,e=>by simp [qK] at e;subst e;exact .nil
 |_,_,_,_, .cons (t:=t) h r,m,e=>by
  unfold qK at e
  cases e1:t.data with
  |none=>rw [e1] at e;cases e
  |some x=>
   rw [e1] at e
   simp only [Option.map_eq_some_iff] at e
   obtain ⟨ys,hy,rfl⟩:=e
   exact .cons (cU.frz s h (fun b hb=>m b (List.mem_append.mpr (.inl hb))) e1) (bh.frz s r (fun b hb=>m b (List.mem_append.mpr (.inr hb))) hy)
end
theorem agN{F H:Hp}{L:List Addr}(w:Same F H)(n: ∀a∈L,F a=none):Chg F H (Bt F H L) H L:=⟨fun b u hb=>by
  unfold Bt
  by_cases z:b∈L
  ·rw [n b z] at hb;cases hb
  ·rw [if_neg z];exact hb,fun b u hb=>by
  unfold Bt at hb
  by_cases z:b∈L
  ·rw [if_pos z] at hb;exact hb
  ·rw [if_neg z] at hb;exact w _ _ hb,fun a _ z _=>⟨rfl,by unfold Bt;rw [if_neg z]⟩,fun a _ z=>by unfold Bt;rw [if_neg z],fun _ _ _ t=>t,fun _ h _=>h,fun s a ks h=>by
  unfold Bt
  by_cases z:a∈L
  ·rw [if_pos z,h];simp
  ·rw [if_neg z];exact s a ks h⟩
def agO(i:Nat)(d:DS)(E:DEn)(ρ:Rh)(o:Option V)(t:Tr):Prop:= ∃x,t.data=some x∧iw i (.sh x) ρ (d E)
def acx(i:Nat)(d:DS):DS:=fun E ρ=>sH i ρ (agO i d E ρ)
theorem bJ.aEF{K:PySem.W.Frag}{F H:Hp}{σ:L2.St}{ρ:Rh}{fps:List (List Addr)}{i:Nat}{o:Option V}{t:Tr}{x:D}(R:bJ K F0 H0 F H σ ρ fps)(h:ρ[i]? =some (.gn o t))(hx:t.data=some x):
  ∃F',Same F F'∧bJ K F0 H0 F' H σ (ρ.set i (.sh x)) (fps.set i []):=by
 obtain ⟨v,fp,g1,g2,g3,g4,g5,g6,g7,g8⟩:=R.Um h
 have c:=agN (H:=H) R.x.w fun a ha=>(g3.none a ha).1
 have R1:=g7.move c.s (c.x R.x g6) (c.adP R.b fun a ha=>g3.nt a ha) fun a ha=>by
  have th:=g7.aeb a ha
  refine ⟨rfl, ?_⟩
  rw [c.o a th.2 fun z=>g8 a z ha]
  exact th.1
 have:=R1.s.set (.sh (cU.frz c.s g3 (fun a ha=>ha) hx)) i
 rw [Fp g1,List.set_set,List.set_set] at this
 refine ⟨_,c.s,R1.x,this,R.p.set_nil i,R1.b⟩
theorem Ut{i:Nat}{st:List Stmt}{d:DS}(h:LSs X F0 H0 st d):LSs X F0 H0 st (acx i d):=
 aiM h fun D σ H ⟨F,ρ,fps,E,R,q,k⟩=>by
  obtain ⟨o,t,hr,x,hx,q⟩:=uH q
  obtain ⟨F',s,R'⟩:=R.aEF hr hx
  exact ⟨F',_,_,E,R',q,k.mono s⟩
end
end DL
end
section
namespace DL
open PySem L2
variable[bG]
inductive DAr where
 |e (d:DE)
 |l (i:Nat)
 |b (i:Nat) (d:DP)
inductive Ar where
 |d (x:D)
 |t (x:Tr)
 |b (x:Tr)
abbrev iY:=List Ar→(Tr→List Tr→Prop)→Prop
def fP:List DAr→List Nat
 |[]=>[]
 | .e _::r=>fP r
 | .l i::r=>i::fP r
 | .b _ _::r=>fP r
def Yx:List DAr→List Nat
 |[]=>[]
 | .e _::r=>Yx r
 | .l _::r=>Yx r
 | .b i _::r=>i::Yx r
abbrev ArK:=List Ar→List (Option V)→Prop
def arD(x:D)(P:ArK):ArK:=fun xs os=>P (.d x::xs) os
def arB(t:Tr)(P:ArK):ArK:=fun xs os=>P (.b t::xs) os
def arT(o:Option V)(t:Tr)(P:ArK):ArK:=fun xs os=>P (.t t::xs) (o::os)
mutual
def dAr:List DAr→Rh→ArK→Prop
 |[],_,P=>P [] []
 | .e d::r,ρ,P=>d ρ fun x=>dAr r ρ (arD x P)
 | .l i::r,ρ,P=>sH i ρ fun o t=>dAr r ρ (arT o t P)
 | .b i d::r,ρ,P=>d ρ fun j _ u=>j=i∧dAr r ρ (arB u P)
end
def aCl(r:List DAr)(ρ:Rh)(P:ArK)(x:D):Prop:=dAr r ρ (arD x P)
def aCm(i:Nat)(r:List DAr)(ρ:Rh)(P:ArK)(j:Nat)(_:List Stp)(u:Tr):Prop:=j=i∧dAr r ρ (arB u P)
def aCn(r:List DAr)(ρ:Rh)(P:ArK)(o:Option V)(t:Tr):Prop:=dAr r ρ (arT o t P)
def Uu:List Nat→List (Option V)→List Tr→Rh→Rh
 |i::is,o::os,u::us,ρ=>Uu is os us (ρ.set i (.gn o u))
 |_,_,_,ρ=>ρ
abbrev DM:=Rh→(Tr→Rh→Prop)→Prop
def aef(js:List Nat)(os:List (Option V))(ρ:Rh)(P:Tr→Rh→Prop)(r:Tr)(us:List Tr):Prop:=us.length=os.length∧P r (Uu js os us ρ)
def Bu(S:iY)(js:List Nat)(ρ:Rh)(P:Tr→Rh→Prop)(xs:List Ar)(os:List (Option V)):Prop:=S xs (aef js os ρ P)
def axg(S:iY)(as:List DAr):DM:=fun ρ P=>dAr as ρ (Bu S (fP as) ρ P)
inductive acy(K:PySem.W.Frag)(F H:Hp):List V→List Tr→List (List Addr)→Prop
 |nil:acy K F H [] [] []
 |cons {v:V} {t:Tr} {fp:List Addr} {vs:List V} {ts:List Tr} {fs:List (List Addr)}:cU K F H v t fp→acy K F H vs ts fs→acy K F H (v::vs) (t::ts) (fp::fs)
inductive qp(K:PySem.W.Frag)(F H:Hp)(B:V→Tr→Prop):List V→List Ar→List V→List (List Addr)→Prop
 |nil:qp K F H B [] [] [] []
 |b {v:V} {t:Tr} {vs:List V} {xs:List Ar} {ls:List V} {fs:List (List Addr)}:B v t→qp K F H B vs xs ls fs→qp K F H B (v::vs) (.b t::xs) ls fs
 |d {v:V} {x:D} {vs:List V} {xs:List Ar} {ls:List V} {fs:List (List Addr)}:Rep K F v x→qp K F H B vs xs ls fs→qp K F H B (v::vs) (.d x::xs) ls fs
 |t {v:V} {t:Tr} {fp:List Addr} {vs:List V} {xs:List Ar} {ls:List V} {fs:List (List Addr)}:cU K F H v t fp→qp K F H B vs xs ls fs→qp K F H B (v::vs) (.t t::xs) (v::ls) (fp::fs)
abbrev BT(K:PySem.W.Frag)(F H:Hp)(v:V)(t:Tr):Prop:= ∃fp,cU K F H v t fp∧fp.Nodup
theorem qp.imp{K:PySem.W.Frag}{F H:Hp}{B B':V→Tr→Prop}(h: ∀v t,B v t→B' v t): ∀{vs:List V} {xs:List Ar} {ls:List V} {fs:List (List Addr)},qp K F H B vs xs ls fs→qp K F H B' vs xs ls fs
 |_,_,_,_, .nil=> .nil
 |_,_,_,_, .d r q=> .d r (qp.imp h q)
 |_,_,_,_, .t r q=> .t r (qp.imp h q)
 |_,_,_,_, .b r q=> .b (h _ _ r) (qp.imp h q)
inductive zF(K:PySem.W.Frag)(F H:Hp)(σ:L2.St)(ρ1 ρ:Rh):List DAr→List V→List Ar→List (Option V)→Prop
 |nil:zF K F H σ ρ1 ρ [] [] [] []
 |b {i:Nat} {d:DP} {p:List Stp} {as:List DAr} {v:V} {vs:List V} {t:Tr} {xs:List Ar} {os:List (Option V)}:AtP ρ1 σ H i p t v→zF K F H σ ρ1 ρ as vs xs os→zF K F H σ ρ1 ρ (.b i d::as) (v::vs) (.b t::xs) os
 |e {d:DE} {as:List DAr} {v:V} {vs:List V} {x:D} {xs:List Ar} {os:List (Option V)}:Rep K F v x→zF K F H σ ρ1 ρ as vs xs os→zF K F H σ ρ1 ρ (.e d::as) (v::vs) (.d x::xs) os
 |l {i:Nat} {as:List DAr} {v:V} {vs:List V} {o:Option V} {t:Tr} {xs:List Ar} {os:List (Option V)}:σ[i]? =some (some v)→ρ[i]? =some (.gn o t)→zF K F H σ ρ1 ρ as vs xs os→zF K F H σ ρ1 ρ (.l i::as) (v::vs) (.t t::xs) (o::os)
section
variable{K:PySem.W.Frag}{F H F' H':Hp}{σ:L2.St}
theorem zF.mono{ρ1 ρ:Rh}(s:Same F F')(n:LamX.ExtN H H'): ∀{as:List DAr} {vs:List V} {xs:List Ar} {os:List (Option V)},zF K F H σ ρ1 ρ as vs xs os→zF K F' H' σ ρ1 ρ as vs xs os
 |_,_,_,_, .nil=> .nil
 |_,_,_,_, .e r q=> .e (r.mono s) (q.mono s n)
 |_,_,_,_, .l h1 h2 q=> .l h1 h2 (q.mono s n)
 |_,_,_,_, .b h q=> .b (h.mono n) (q.mono s n)
theorem zF.set{ρ1 ρ:Rh}{i:Nat}{s:Sl}: ∀{as:List DAr} {vs:List V} {xs:List Ar} {os:List (Option V)},zF K F H σ ρ1 ρ as vs xs os→i∉fP as→zF K F H σ ρ1 (ρ.set i s) as vs xs os
 |_,_,_,_, .nil,_=> .nil
 |_,_,_,_, .e r q,n=> .e r (q.set n)
 |_,_,_,_, .b h q,n=> .b h (q.set n)
 |_,_,_,_, .l h1 h2 q,n=>by
  have n':i≠_∧_:=List.ne_and_not_mem_of_not_mem_cons (show i∉_::fP _ from n)
  exact .l h1 (by rw [List.getElem?_set_ne n'.1];exact h2) (q.set n'.2)
inductive ahU(σ:L2.St):List Nat→List V→List (Option V)→Prop
 |nil:ahU σ [] [] []
 |cons {i:Nat} {is:List Nat} {v:V} {vs:List V} {o:Option V} {os:List (Option V)}:σ[i]? =some (some v)→(∀w,o=some w→v=w)→ahU σ is vs os→ahU σ (i::is) (v::vs) (o::os)
theorem ahU.len: ∀{js:List Nat} {ls:List V} {os:List (Option V)},ahU σ js ls os→js.length=os.length∧ls.length=os.length
 |_,_,_, .nil=>⟨rfl,rfl⟩
 |_,_,_, .cons _ _ q=>by have:=q.len;simp [this.1,this.2]
theorem bJ.aCo{F0 H0:Hp}{ρ1:Rh}(as:List DAr): ∀{ρ:Rh} {fps:List (List Addr)} {vs:List V} {xs:List Ar} {os:List (Option V)},(fP as).Nodup→bJ K F0 H0 F H σ ρ fps→zF K F H σ ρ1 ρ as vs xs os→
  ∃ls fs ρ0 fps0,qp K F H (fun v t=> ∃j p,j∈Yx as∧AtP ρ1 σ H j p t v) vs xs ls fs∧fs.flatten.Nodup∧(∀a∈fs.flatten,H0 a=none∧a∈fps.flatten∧a∉fps0.flatten)∧bJ K F0 H0 F H σ ρ0 fps0∧(∀a∈fps0.flatten,a∈fps.flatten)∧ρ0.length=ρ.length∧(∀j,j∉fP as→ρ0[j]? =ρ[j]?)∧ahU σ (fP as) ls os:=by
 induction as with
 |nil=>
  intro ρ fps vs xs os nd R h
  cases h
  exact ⟨[],[],ρ,fps, .nil,List.nodup_nil,(fun a ha=>by cases ha),R,fun a ha=>ha,rfl,fun j _=>rfl, .nil⟩
 |cons x as ih=>
  intro ρ fps vs xs os nd R h
  cases h with
  |e r q=>
   obtain ⟨ls,fs,ρ0,fps0,h1,h2,h3,h4,h5,h6,h7,h8⟩:=ih nd R q
   exact ⟨ls,fs,ρ0,fps0, .d r h1,h2,h3,h4,h5,h6,h7,h8⟩
  |b r q=>
   obtain ⟨ls,fs,ρ0,fps0,h1,h2,h3,h4,h5,h6,h7,h8⟩:=ih nd R q
   exact ⟨ls,fs,ρ0,fps0, .b ⟨_,_,List.mem_cons_self ..,r⟩ (h1.imp fun v t ⟨j,p,hj,q⟩=>⟨j,p,List.mem_cons_of_mem _ hj,q⟩),h2,h3,h4,h5,h6,h7,h8⟩
  |l e1 e2 q=>
   rename_i i _ _ _ _ _ _
   have nd':i∉_∧_:=List.nodup_cons.mp (show (i::fP _).Nodup from nd)
   obtain ⟨v,fp,g1,g2,g3,g4,g5,g6,g7,g8⟩:=R.Um e2
   rw [e1] at g1
   cases g1
   obtain ⟨ls,fs,ρ0,fps0,h1,h2,h3,h4,h5,h6,h7,h8⟩:=ih nd'.2 g7 (q.set nd'.1)
   have sub: ∀a,a∈(fps.set i []).flatten→a∈fps.flatten:=fun a ha=>(gH fps i).subset ha
   refine ⟨_::ls,fp::fs,ρ0,fps0, .t g3 h1, ?_,fun a ha=> ?_,h4,fun a ha=>sub a (h5 a ha),by rw [h6,List.length_set],fun j hj=> ?_, .cons e1 g4 h8⟩
   ·rw [List.flatten_cons,List.nodup_append]
    exact ⟨g5,h2,fun a ha b hb e=>g8 a ha (by subst e;exact (h3 a hb).2.1)⟩
   ·rw [List.flatten_cons,List.mem_append] at ha
    rcases ha with z|z
    ·exact ⟨g6 a z,List.mem_flatten.mpr ⟨_,List.mem_of_getElem? g2,z⟩,fun y=>g8 a z (h5 a y)⟩
    ·exact ⟨(h3 a z).1,sub a (h3 a z).2.1,(h3 a z).2.2⟩
   ·have nj:j≠i∧_:=List.ne_and_not_mem_of_not_mem_cons (show j∉i::fP _ from hj)
    rw [h7 j nj.2,List.getElem?_set_ne fun z=>nj.1 z.symm]
end
def aEG(K:PySem.W.Frag)(F0 H0:Hp)(d:DM):TE:=fun σ H Q=> ∃F ρ fps P,bJ K F0 H0 F H σ ρ fps∧d ρ P∧ ∀t ρ',P t ρ'→ ∀F' H' v fps' fp,bJ K F0 H0 F' H' σ ρ' fps'→Same F F'→cU K F' H' v t fp→fp.Nodup→(∀a∈fp,H0 a=none∧a∉fps'.flatten)→Q v H'
abbrev LM(X:Cx)(F0 H0:Hp)(e:Expr)(d:DM):Prop:=PE X e (aEG X.K F0 H0 d)
def aCp(K:PySem.W.Frag)(F0 H0:Hp)(as:List DAr):TA:=fun σ H Q=> ∃F ρ fps P,bJ K F0 H0 F H σ ρ fps∧dAr as ρ P∧ ∀xs os,P xs os→ ∀F' H' vs,Ext F H F' H'→zF K F' H' σ ρ ρ as vs xs os→Q vs H'
abbrev LAG(X:Cx)(F0 H0:Hp)(es:List Expr)(as:List DAr):Prop:=PA X es (aCp X.K F0 H0 as)
def vU(H:Hp)(L:List Addr):Hp:=fun a=>if a∈L then none else H a
def qu(K:PySem.W.Frag)(S:iY):Sp:=fun vs H Q _=> ∃F xs P ls fs,(Same F H∧pK F H)∧qp K F H (BT K F (vU H fs.flatten)) vs xs ls fs∧fs.flatten.Nodup∧S xs P∧
 ∀r us,P r us→us.length=ls.length→ ∀F' H' v fp fs',Ext F (vU H fs.flatten) F' H'→cU K F' H' v r fp→acy K F' H' ls us fs'→(fp++fs'.flatten).Nodup→(∀a∈fp++fs'.flatten,a∈fs.flatten∨H a=none)→Q v H'
section
variable{X:Cx}{F0 H0:Hp}{e a b c o:Expr}{es:List Expr}{pos p apos pos':Pos}{x m:Str}
theorem aqD:LAG X F0 H0 [] []:=paW pa_nil fun σ H Q ⟨F,ρ,fps,P,E,q,k⟩=>k _ _ q F H _ (.refl E.x.w) .nil
theorem aCq{da:DE}{as:List DAr}(ha:LE X F0 H0 e da)(hr:LAG X F0 H0 es as)(hs:starEach (e::es) X.env=(false,eval e X.env)::starEach es X.env:=by rfl):LAG X F0 H0 (e::es) (.e da::as):=
 paW (pa_cons ha hr hs) fun σ H Q ⟨F,ρ,fps,P,E,q,k⟩=>⟨F,ρ,fps,_,E,q,fun x hx F1 H1 v e1 r1=>
  ⟨F1,ρ,fps,_,E.ext e1,hx,fun xs os hxs F2 H2 w e2 r2=>k _ _ hxs F2 H2 _ (e1.trans e2) (.e (r1.mono e2.f) r2)⟩⟩
theorem al9{H:Hp}{L:List Addr}{a:Addr}(z:a∉L):vU H L a=H a:=by unfold vU;rw [if_neg z]
theorem al_{as:List DAr}(hb: ∀j∈Yx as,j∉fP as){K:PySem.W.Frag}{F H:Hp}{σ:L2.St}{ρ ρ0:Rh}{fps0:List (List Addr)}{fs:List (List Addr)}(h3: ∀a∈fs.flatten,H0 a=none∧a∉fps0.flatten)(R:bJ K F0 H0 F H σ ρ0 fps0)(h7: ∀j,j∉fP as→ρ0[j]? =ρ[j]?)
  (v:V) (t:Tr) (h: ∃j p,j∈Yx as∧AtP ρ σ H j p t v):BT K F (vU H fs.flatten) v t:=by
 obtain ⟨j,p,hj,t0,v0,g1,g2,g3,g4⟩:=h
 have g1:alY ρ0 j t0:=by
  unfold alY at g1 ⊢
  rw [h7 j (hb j hj)]
  exact g1
 have key: ∀(fp:List Addr) (x:V),cU K F H x t0 fp→fp.Nodup→(∀a∈fp,a∉fs.flatten)→σ[j]? =some (some x)→BT K F (vU H fs.flatten) v t:=fun fp x T nd out e=>by
  rw [g3] at e
  cases e
  obtain ⟨fq,q1,q2,q3,_⟩:=T.focus nd g2 g4
  exact ⟨fq,q1.hh (.refl F) fun a ha=>⟨al9 (out a (q3 a ha)),(q1.none a ha).1⟩,q2⟩
 rcases g1 with ⟨o,g1⟩|g1
 ·obtain ⟨x,fp,e1,e2,e3,_,e5,_⟩:=R.Um g1
  exact key fp x e3 e5 (fun a ha z=>(h3 a z).2 (List.mem_flatten.mpr ⟨_,List.mem_of_getElem? e2,ha⟩)) e1
 ·obtain ⟨x,fp,e1,_,e3⟩:=R.s.get g1
  cases e3 with
  |bg q n=>exact key _ _ (q.ext R.x) n (fun a ha z=>(q.none a ha).2 (h3 a z).1) e1
structure aFB(P:Program)(w:World)(K:PySem.W.Frag)(mg:Str→Option Value)(base:Heap)(x:Str)(k:Nat)(S:iY):Prop where
 ex: ∃f fd ps,FnOk P w K mg base CX0 k f fd ps (qu K S)∧mg x=some (.ref f)∧PySem.W.keepIn K (.ref f)=true∧Binds K fd ps []
structure agP(P:Program)(w:World)(K:PySem.W.Frag)(mg:Str→Option Value)(base:Heap)(m:Str)(k:Nat)(C:Addr)(S:iY):Prop where
 cl:Cls K C
 ex: ∃f fd ps,Meth K C m f∧FnOk P w K mg base CX0 k f fd ps (qu K S)∧Binds K fd ps []
def aay(C:Addr)(m:Str)(i:Nat)(as:List DAr)(S:iY)(ρ:Rh)(P:Tr→Rh→Prop)(o:Option V)(t:Tr):Prop:=(∃gs,t= .obj C gs∧fj m gs=none)∧dAr as ρ (arT o t (Bu S (fP (.l i::as)) ρ P))
def axh(C:Addr)(m:Str)(i:Nat)(as:List DAr)(S:iY):DM:=fun ρ P=>sH i ρ (aay C m i as S ρ P)
theorem look_none{f:Str}: ∀{vs:List (Str×V)} {gs:List (Str×Tr)},vs.map (·.1)=gs.map (·.1)→fj f gs=none→vs.lookup f=none
 |[],_,_,_=>rfl
 |_::_,[],e,_=>by simp at e
 |(g',w)::vs,(g,t)::r,e,h=>by
  simp only [List.map_cons,List.cons.injEq] at e
  obtain ⟨rfl,e⟩:=e
  unfold fj at h
  split at h
  ·cases h
  ·rename_i z
   simp only [List.lookup]
   have:(f==g')=false:=by simpa using z
   rw [this]
   exact look_none e (by simpa using h)
def ama(i:Nat)(E:DEn)(t:Tr)(ρ:Rh):Prop:=match t with| .sh x=>iw i (.sh x) ρ E.nx|_=>False
def aCr(i:Nat)(d:DM):DS:=fun E ρ=>d ρ (ama i E)
def amb(i:Nat)(E:DEn)(t:Tr)(ρ:Rh):Prop:=iw i (.gn none t) ρ E.nx
def aCs(i:Nat)(d:DM):DS:=fun E ρ=>d ρ (amb i E)
def aeg(E:DEn)(_:Tr)(ρ:Rh):Prop:=E.nx ρ
def axi(d:DM):DS:=fun E ρ=>d ρ (aeg E)
def amc(E:DEn)(t:Tr)(ρ:Rh):Prop:=E.rg t ρ
def aCt(d:DM):DS:=fun E ρ=>d ρ (amc E)
def amd(E:DEn)(ρ:Rh)(t:Tr):Prop:=E.rg t ρ
def ame(d:DTr):DS:=fun E ρ=>d ρ (amd E ρ)
theorem aqE{d:DTr}(h:LTr X F0 H0 e d):LS X F0 H0 (.Return (some e) pos) (ame d):=
 psW (ps_ret h) fun D σ H ⟨F,ρ,fps,E,R,q,k⟩=>⟨F,ρ,fps,_,R,q,fun t ht F1 H1 v fp e1 r nd nf=>k.rg F1 H1 σ ρ fps v t fp e1.f (R.ext e1) r nd (fun a ha=>R.fresh (nf a ha)) ht⟩
def axj:DS:=fun E ρ=>E.rg (.sh .non) ρ
def aCu(K:PySem.W.Frag)(F0 H0:Hp)(d:Rh→(Bool→Rh→Prop)→Prop):TT:=fun σ H Q=> ∃F ρ fps P,bJ K F0 H0 F H σ ρ fps∧d ρ P∧ ∀b ρ',P b ρ'→ ∀F' H' fps',bJ K F0 H0 F' H' σ ρ' fps'→Same F F'→Q b H'
abbrev LTM(X:Cx)(F0 H0:Hp)(e:Expr)(d:Rh→(Bool→Rh→Prop)→Prop):Prop:=PT X e (aCu X.K F0 H0 d)
end
def slG:List Ar→List V→Rh
 | .d x::xs,ls=> .sh x::slG xs ls
 | .t t::xs,l::ls=> .gn (some l) t::slG xs ls
 | .b t::xs,ls=> .bg t::slG xs ls
 |_,_=>[]
def xR(N:List Str)(xs:List Ar)(ls:List V):Rh:=slG xs ls++List.replicate (N.length - xs.length) .no
def isT:Ar→Bool
 | .d _=>false
 | .t _=>true
 | .b _=>false
def gY:Nat→List Ar→List Nat
 |_,[]=>[]
 |n, .d _::r=>gY (n+1) r
 |n, .t _::r=>n::gY (n+1) r
 |n, .b _::r=>gY (n+1) r
def agQ(t:Tr)(P:List Tr→Prop)(us:List Tr):Prop:=P (t::us)
def Bv:List Nat→List V→Rh→(List Tr→Prop)→Prop
 |[],_,_,P=>P []
 |j::js,l::ls,ρ,P=>sH j ρ fun o t=>o=some l∧Bv js ls ρ (agQ t P)
 |_,_,_,_=>False
def amf(l:V)(js:List Nat)(ls:List V)(ρ:Rh)(P:List Tr→Prop)(o:Option V)(t:Tr):Prop:=o=some l∧Bv js ls ρ (agQ t P)
def aeh(js:List Nat)(ls:List V)(Q:Tr→List Tr→Prop):DEn:={ nx:=fun ρ=>Bv js ls ρ (Q (.sh .non)),rt:=fun _=>False,rg:=fun r ρ=>Bv js ls ρ (Q r) }
section
variable{K:PySem.W.Frag}{F H:Hp}
theorem qp.len{B:V→Tr→Prop}: ∀{vs:List V} {xs:List Ar} {ls:List V} {fs:List (List Addr)},qp K F H B vs xs ls fs→vs.length=xs.length
 |_,_,_,_, .nil=>rfl
 |_,_,_,_, .b _ q=>by simp [q.len]
 |_,_,_,_, .d _ q=>by simp [q.len]
 |_,_,_,_, .t _ q=>by simp [q.len]
def fpG:List Ar→List (List Addr)→List (List Addr)
 | .d _::xs,fs=>[]::fpG xs fs
 | .t _::xs,f::fs=>f::fpG xs fs
 | .b _::xs,fs=>[]::fpG xs fs
 |_,_=>[]
theorem P_{a:Addr}{B:V→Tr→Prop}: ∀{vs:List V} {xs:List Ar} {ls:List V} {fs:List (List Addr)},qp K F H B vs xs ls fs→((fpG xs fs).flatten=fs.flatten)
 |_,_,_,_, .nil=>rfl
 |_,_,_,_, .b _ q=>by simp [fpG,P_ (a:=a) q]
 |_,_,_,_, .d _ q=>by simp [fpG,P_ (a:=a) q]
 |_,_,_,_, .t _ q=>by simp [fpG,P_ (a:=a) q]
theorem rP{F0 H0:Hp}: ∀{vs:List V} {xs:List Ar} {ls:List V} {fs:List (List Addr)} (n:Nat),qp K F H (BT K F0 H0) vs xs ls fs→bB K F0 H0 F H (vs.map some++List.replicate n none) (slG xs ls++List.replicate n .no) (fpG xs fs++List.replicate n [])
 |_,_,_,_,0, .nil=> .nil
 |_,_,_,_,n+1, .nil=> .cons .no (rP n .nil)
 |_,_,_,_,n, .d r q=> .cons (.sh r) (rP n q)
 |_,_,_,_,n, .t r q=> .cons (.gn r fun w h=>by cases h;rfl) (rP n q)
 |_,_,_,_,n, .b r q=> .cons (by obtain ⟨_,h,nd⟩:=r;exact .bg h nd) (rP n q)
theorem acz{F0 H0:Hp}{σ:L2.St}: ∀{js:List Nat} {ls:List V} {ρ:Rh} {fps:List (List Addr)} {P:List Tr→Prop},js.Nodup→bJ K F0 H0 F H σ ρ fps→Bv js ls ρ P→js.length=ls.length→
  ∃us fs,P us∧us.length=ls.length∧acy K F H ls us fs∧fs.flatten.Nodup∧(∀a∈fs.flatten,H0 a=none∧a∈fps.flatten)
 |[],[],ρ,fps,P,_,R,h,_=>⟨[],[],h,rfl, .nil,List.nodup_nil,fun a ha=>by cases ha⟩
 |[],_::_,_,_,_,_,_,_,e=>by simp at e
 |_::_,[],_,_,_,_,_,_,e=>by simp at e
 |j::js,l::ls,ρ,fps,P,nd,R,h,e=>by
  rw [List.nodup_cons] at nd
  obtain ⟨o,t,hs,ho,h9⟩:=uH h
  obtain ⟨v,fp,g1,g2,g3,g4,g5,g6,g7,g8⟩:=R.Um hs
  have hv:=g4 l ho
  subst hv
  have keep: ∀{js:List Nat} {ls:List V} {P:List Tr→Prop},j∉js→Bv js ls ρ P→Bv js ls (ρ.set j .no) P:=by
   intro js
   induction js with
   |nil=>intro ls P _ h;exact h
   |cons i is ih=>
    intro ls P n h
    cases ls with
    |nil=>exact h
    |cons l ls=>
     have n':=List.ne_and_not_mem_of_not_mem_cons n
     obtain ⟨o,t,e1,e2,e3⟩:=uH h
     show sH i (ρ.set j .no) _
     unfold sH
     rw [List.getElem?_set_ne n'.1,e1]
     exact ⟨e2,ih n'.2 e3⟩
  obtain ⟨us,fs,q1,q2,q3,q4,q5⟩:=acz nd.2 g7 (keep nd.1 h9) (by simpa using e)
  refine ⟨t::us,fp::fs,q1,by simp [q2], .cons g3 q3, ?_,fun a ha=> ?_⟩
  ·rw [List.flatten_cons,List.nodup_append]
   exact ⟨g5,q4,fun a ha b hb e=>g8 a ha (by subst e;exact (q5 a hb).2)⟩
  ·rw [List.flatten_cons,List.mem_append] at ha
   rcases ha with z|z
   ·exact ⟨g6 a z,List.mem_flatten.mpr ⟨_,List.mem_of_getElem? g2,z⟩⟩
   ·exact ⟨(q5 a z).1,(gH fps j).subset (q5 a z).2⟩
theorem qp.aqF{B:V→Tr→Prop}: ∀{vs:List V} {xs:List Ar} {ls:List V} {fs:List (List Addr)} (n:Nat),qp K F H B vs xs ls fs→(gY n xs).length=ls.length
 |_,_,_,_,_, .nil=>rfl
 |_,_,_,_,n, .d _ q=>q.aqF (n+1)
 |_,_,_,_,n, .b _ q=>q.aqF (n+1)
 |_,_,_,_,n, .t _ q=>by simp [gY,q.aqF (n+1)]
theorem lg: ∀(xs:List Ar) (n:Nat),(gY n xs).Nodup∧ ∀j∈gY n xs,n≤j
 |[],n=>⟨List.nodup_nil,fun j h=>by cases h⟩
 | .d _::r,n=>⟨(lg r (n+1)).1,fun j h=>Nat.le_of_succ_le ((lg r (n+1)).2 j h)⟩
 | .b _::r,n=>⟨(lg r (n+1)).1,fun j h=>Nat.le_of_succ_le ((lg r (n+1)).2 j h)⟩
 | .t _::r,n=>by
  obtain ⟨h1,h2⟩:=lg r (n+1)
  refine ⟨List.nodup_cons.mpr ⟨fun h=>absurd (h2 n h) (Nat.not_succ_le_self n),h1⟩,fun j h=> ?_⟩
  rcases List.mem_cons.mp h with e|e
  ·omega
  ·exact Nat.le_of_succ_le (h2 j e)
end
section
variable{P:Program}{w:World}{K:PySem.W.Frag}{mg:Str→Option Value}{base:Heap}
theorem axk{x qual:Str}{st:Stmt}{f:Addr}{fd:FuncData}{N ps:List Str}{k:Nat}{S:iY}{d:DS}(F:Fun K x qual st f fd)(Sc:FnScope N ps (defScope st))(hlen: ∀xs P,S xs P→xs.length=ps.length)
  (body: ∀(cdv:Value) (A:Around) (outer:List Env) (s:Shared) (H:Hp) (E:XK) (F0 H0:Hp),Room k (A.deeper (PyProof.Rows.envOfC qual (defScope st) s.heap.objs.size f cdv))→LSs (cxOf CX0 P w K mg base N qual (defScope st) f cdv A outer s H E).nox F0 H0 (defBody st) d)
  (sem: ∀xs Q,S xs Q→ ∀ls,(gY 0 xs).length=ls.length→d (aeh (gY 0 xs) ls Q) (xR N xs ls)):FnOk P w K mg base CX0 (k+1) f fd ps (qu K S):=by
 refine F.ok Sc (fun vs H Q E ⟨F,xs,P,ls,fs,e,r,_,h,_⟩=>by rw [r.len];exact hlen _ _ h) fun cdv A outer s H vs Q E hr ⟨F0,xs,P,ls,fs,e,r,nd,h,kk⟩=> ?_
 have nF: ∀a∈fs.flatten,F0 a=none∧H a≠none:=by
  have: ∀{B:V→Tr→Prop} {vs:List V} {xs:List Ar} {ls:List V} {fs:List (List Addr)},qp K F0 H B vs xs ls fs→ ∀a∈fs.flatten,F0 a=none∧H a≠none:=by
   intro B vs xs ls fs r
   induction r with
   |nil=>intro a ha;cases ha
   |d _ _ ih=>exact ih
   |b _ _ ih=>exact ih
   |t r _ ih=>
    intro a ha
    rw [List.flatten_cons,List.mem_append] at ha
    rcases ha with z|z
    ·exact r.none a z
    ·exact ih a z
  exact this r
 have hl:=r.aqF 0
 have fl: ∀n,(fpG xs fs++List.replicate n ([]:List Addr)).flatten=fs.flatten:=fun n=>by
  rw [List.flatten_append,P_ (a:=0) r]
  induction n with
  |zero=>simp
  |succ n ih=>simpa [List.replicate_succ] using ih
 have x0:Ext F0 (vU H fs.flatten) F0 H:= .of (.refl _) (fun b u hb=>by
  unfold vU at hb
  split at hb
  ·cases hb
  ·exact hb) e.1 (fun _ _=>rfl) fun _=>e.2.2.2
 have ndj:=(lg xs 0).1
 have fin: ∀(F' H':Hp) (σ':L2.St) (ρ':Rh) (fps':List (List Addr)) (v:V) (t:Tr) (fp:List Addr),bJ K F0 (vU H fs.flatten) F' H' σ' ρ' fps'→cU K F' H' v t fp→fp.Nodup→(∀a∈fp,vU H fs.flatten a=none∧a∉fps'.flatten)→Bv (gY 0 xs) ls ρ' (P t)→Q v H':=by
  intro F' H' σ' ρ' fps' v t fp R T n1 n2 q
  obtain ⟨us,fs',q1,q2,q3,q4,q5⟩:=acz ndj R q hl
  have key: ∀a,vU H fs.flatten a=none→a∈fs.flatten∨H a=none:=fun a z=>by
   unfold vU at z
   by_cases y:a∈fs.flatten
   ·exact .inl y
   ·rw [if_neg y] at z;exact .inr z
  refine kk t us q1 q2 F' H' v fp fs' R.x T q3 ?_ fun a ha=> ?_
  ·rw [List.nodup_append]
   exact ⟨n1,q4,fun a ha b hb z=>(n2 a ha).2 (z ▸ (q5 b hb).2)⟩
  ·rcases List.mem_append.mp ha with z|z
   ·exact key a (n2 a z).1
   ·exact key a (q5 a z).1
 refine ⟨_,body cdv A outer s H E F0 (vU H fs.flatten) hr,F0,xR N xs ls,fpG xs fs++List.replicate (N.length - xs.length) [],aeh (gY 0 xs) ls P,⟨x0, ?_, ?_,e.2⟩,sem xs P h ls hl,⟨?_, ?_, ?_, ?_, ?_, ?_⟩⟩
 ·unfold L2.start xR
  rw [r.len]
  exact rP _ r
 ·exact ⟨by rw [fl];exact nd,fun a ha=>by rw [fl] at ha;unfold vU;rw [if_pos ha]⟩
 ·exact fun F' H' σ' ρ' fps' s R q=>fin F' H' σ' ρ' fps' _ (.sh .non) [] R (.sh .non) List.nodup_nil (fun a ha=>by cases ha) q
 ·exact fun F' H' σ' ρ' fps' s R q=>False.elim q
 ·exact fun F' H' σ' ρ' fps' s R q=>False.elim q
 ·exact fun F' H' v x s e' r' q=>False.elim q
 ·exact fun F' H' v x fp s e' r' n1 n2 q=>False.elim q
 ·exact fun F' H' σ' ρ' fps' v t fp s R T n1 n2 q=>fin F' H' σ' ρ' fps' v t fp R T n1 n2 q
end
end DL
end
section
namespace DL
open PySem L2
variable[bG]
section
variable{X:Cx}{F0 H0:Hp}{e a b c o:Expr}{es:List Expr}{pos p apos pos':Pos}{x m:Str}
abbrev DTM:=Rh→(Bool→Rh→Prop)→Prop
def axl(P:Bool→Rh→Prop)(t:Tr)(ρ:Rh):Prop:=match t with| .sh (.bl b)=>P b ρ|_=>False
def aEH(d:DM):DTM:=fun ρ P=>d ρ (axl P)
def axm(P:Bool→Rh→Prop)(b:Bool)(ρ:Rh):Prop:=P (!b) ρ
def aEI(d:DTM):DTM:=fun ρ P=>d ρ (axm P)
def axn(d u:DS)(E:DEn)(b:Bool)(ρ:Rh):Prop:=ifB b (stT d E ρ) (stT u E ρ)
def aEJ(dc:DTM)(d u:DS):DS:=fun E ρ=>dc ρ (axn d u E)
def apG(S:iY)(xs:List Ar)(P:Tr→List Tr→Prop):Prop:=S xs P
structure MkT(P:Program)(w:World)(K:PySem.W.Frag)(mg:Str→Option Value)(base:Heap)(x:Str)(C:Addr)(k:Nat)(S:iY):Prop where
 ex: ∃f fd ps,Mk K C f∧FnOk P w K mg base CX0 k f fd ps (qu K S)∧mg x=some (.ref C)∧Binds K fd ps []
def aqG(P:Tr→Prop)(r:Tr)(us:List Tr):Prop:=match r,us with| .sh .non,[t]=>P t|_,_=>False
def aqH(C:Addr)(S:iY)(P:Tr→Prop)(xs:List D):Prop:=apG S (.t (.obj C [])::xs.map Ar.d) (aqG P)
def aei(C:Addr)(S:iY)(da:DA):DTr:=fun ρ P=>da ρ (aqH C S P)
theorem amg{K:PySem.W.Frag}{F H:Hp}{B:V→Tr→Prop}: ∀{vs:List V} {xs:List D},aY K F vs xs→qp K F H B vs (xs.map Ar.d) [] []
 |_,_, .nil=> .nil
 |_,_, .cons r q=> .d r (amg q)
theorem amh{C:Addr}{S:iY}{K:PySem.W.Frag}{F H F1 H1:Hp}{vs:List V}{xs:List D}{P:Tr→Prop}{Q:VK}{E:XK}(tb:pK F H)(e1:Ext F H F1 H1)(r1:aY K F1 vs xs)(h:aqH C S P xs){x dx:Addr}(nx:H1 x=none)(ndx:H1 dx=none)(ne:dx≠x)
  (k: ∀t,P t→ ∀F' H' v fp,Ext F H F' H'→cU K F' H' v t fp→fp.Nodup→(∀a∈fp,H a=none)→Q v H'):qu K S (.ref x::vs) (upd (upd H1 dx (.own x)) x (.ins C dx [])) (fun v H2=>v= .non∧Q (.ref x) H2) E:=by
 have nF:=e1.w.free nx
 have same: ∀b,b≠x→b≠dx→upd (upd H1 dx (.own x)) x (.ins C dx []) b=H1 b:=fun b h1 h2=>by rw [upd_ne h1,upd_ne h2]
 have w1:Same F1 (upd (upd H1 dx (.own x)) x (.ins C dx [])):=fun b u hb=>by
  rw [same b (ne_of_none hb nF) (ne_of_none hb (e1.w.free ndx))];exact e1.w _ _ hb
 have tb2:pK F1 (upd (upd H1 dx (.own x)) x (.ins C dx [])):=⟨fun p hp=>((e1.t _ _ hp (tb.1 p hp)).ext (aN ndx)).ext (aN (by rw [upd_ne ne.symm];exact nx)),(e1.adP tb).2.1,((e1.adP tb).2.2.upd (by intro _ z;cases z)).upd (by intro _ z;cases z)⟩
 have hless:vU (upd (upd H1 dx (.own x)) x (.ins C dx [])) ([[x]]:List (List Addr)).flatten=upd H1 dx (.own x):=by
  funext b
  unfold vU
  by_cases z:b=x
  ·rw [if_pos (by simp [z]),z,upd_ne ne.symm,nx]
  ·rw [if_neg (by simpa using z),upd_ne z]
 refine ⟨F1,_,_,[.ref x],[[x]],⟨w1,tb2⟩, .t (.obj (vs:=[]) (gs:=[]) upd_same nF rfl .nil) (amg r1),by simp,h,fun r us hp hl F' H' v fp fs' e2 T Ts nd nw=> ?_⟩
 unfold aqG at hp
 split at hp
 ·rename_i t
  cases T with
  |sh r=>
   cases r
   cases Ts with
   |cons T' Ts'=>
    rename_i f' fs'
    cases Ts'
    simp only [List.nil_append,List.flatten_cons,List.flatten_nil,List.append_nil] at nd nw
    rw [hless] at e2
    refine ⟨rfl,k t hp F' H' _ f' ((e1.trans (.adQ e1.w ndx)).trans e2) T' nd fun a ha=> ?_⟩
    ·rcases nw a ha with z|z
     ·simp at z;subst z;exact e1.free nx
     ·by_cases n1:a=x
      ·subst n1;exact e1.free nx
      ·by_cases n2:a=dx
       ·subst n2;exact e1.free ndx
       ·rw [same a n1 n2] at z;exact e1.free z
 ·exact hp.elim
theorem ami{k:Nat}{C:Addr}{S:iY}{E:XK}{da:DA}(h:MkT X.prog X.w X.K X.mg X.base x C k S)(hr:Room (k+1) X.A)(hg:Gl X x)(hx:Passes CX0 X E)
  (ha:LA X F0 H0 (e::es) da) (hdb:(x==("__debug__":Str))=false:=by decide) (he:starEach (e::es) X.env=(false,eval e X.env)::starEach es X.env:=by rfl) (hpl:(backTo pos (starEach es X.env)).any (·.1)=false:=by rfl):
  LTr X F0 H0 (.Call (.Name x p) (e::es) [] pos) (aei C S da):=by
 obtain ⟨f,fd,ps,M,F,hm,hb⟩:=h
 exact peW (pe_make M F hr hg hm hb .nil hx ha hdb he hpl) fun σ H Q ⟨F,ρ,fps,P,R,q,kk⟩=>⟨F,ρ,fps,_,R,q,fun xs hxs F1 H1 vs e1 r1 x dx nx ndx ne=>by
  rw [List.append_nil]
  exact amh R.b e1 r1 hxs nx ndx ne kk⟩
def acA(P:D→Prop)(x:Option D):Prop:=match x with|some x=>P x|none=>False
def agR(P:D→Prop)(t:Tr):Prop:=acA P t.data
def aej(d:DTr):DE:=fun ρ P=>d ρ (agR P)
theorem amj{d:DTr}(h:LTr X F0 H0 e d):LE X F0 H0 e (aej d):=peW h fun σ H Q ⟨F,ρ,fps,P,E,q,k⟩=>⟨F,ρ,fps,_,E,q,fun t ht F1 H1 v fp e1 r nd nf=>by
 unfold agR acA at ht
 split at ht
 ·rename_i x hx
  have c:=agN (H:=H1) e1.w fun a ha=>(r.none a ha).1
  refine k x ht _ H1 v ⟨e1.f.trans c.s,e1.n,c.w,fun a ha=> ?_,e1.t,e1.s,fun s=>c.m (e1.m s)⟩ (cU.frz c.s r (fun a ha=>ha) hx)
  have n1:a∉fp:=fun z=>ha (nf a z)
  rw [c.o a (e1.s a ha) n1,e1.o a ha]
 ·exact ht.elim⟩
end
section
variable{P:D→Prop}{PT:Tr→Prop}{PM:Tr→Rh→Prop}{PB:Bool→Rh→Prop}{PG:Option V→Tr→Prop}{PP:Nat→List Stp→Tr→Prop}{PR:Rh→Prop}{PA:ArK}{PL:List Tr→Prop}{PS:Tr→List Tr→Prop}
 {i j n k:Nat} {o:Option V} {v l:V} {t u w:Tr} {s:Sl} {ρ:Rh} {E:DEn} {d d1 d2:DS} {de dk:DE} {dt:DTr} {dm:DM} {dp:DP} {dc:DTM} {dA:DA} {C:Addr} {gs:List (Str×Tr)} {ts us:List Tr} {xs:List Ar} {ys:List D} {os:List (Option V)} {ls:List V} {js:List Nat} {f g m:Str} {p:List Stp} {T:Addr→Prop} {S:iY} {as:List DAr} {x:D} {z:Int} {b:Bool} {Q:Tr→List Tr→Prop}
theorem aqI:sH 0 (.gn o t::ρ) PG=PG o t:=id rfl
theorem aqJ:sH (i+1) (s::ρ) PG=sH i ρ PG:=id rfl
theorem aEK:dPl i ρ PP=Br i ρ (aw8 i PP):=id rfl
theorem aqK:Br 0 (.gn o t::ρ) PG=PG o t:=id rfl
theorem amk:Br 0 (.bg t::ρ) PG=PG none t:=id rfl
theorem aqL:Br (i+1) (s::ρ) PG=Br i ρ PG:=id rfl
theorem aCv:aw8 i PP o t=PP i [] t:=id rfl
def axo(PP:Nat→List Stp→Tr→Prop)(i:Nat)(p:List Stp)(f:Str)(x:Option Tr):Prop:=match x with|some t=>PP i (p++[.fld f]) t|none=>False
theorem aCw:aw9 T dp f ρ PP=dp ρ (alZ T f PP):=id rfl
theorem axp:alZ T f PP i p (.obj C gs)=(T C∧axo PP i p f (gs.lookup f)):=by
 unfold axo
 show (T C∧_)=(T C∧_)
 cases h:gs.lookup f<;>rfl
theorem axq:axo PP i p f (some t)=PP i (p++[.fld f]) t:=id rfl
def aml(PP:Nat→List Stp→Tr→Prop)(i:Nat)(p:List Stp)(k:Nat)(x:Option Tr):Prop:=match x with|some t=>PP i (p++[.idx k]) t|none=>False
theorem aCx:aEE dp dk ρ PP=dp ρ (al0 dk ρ PP):=id rfl
theorem axr:al0 dk ρ PP i p u=dk ρ (Yv PP i p u):=id rfl
theorem aqM:Yv PP i p (.lst ts) (.int z)=(0≤z∧aml PP i p z.toNat (ts[z.toNat]?)):=by
 unfold Yv aml
 cases h:ts[z.toNat]? <;>simp [h]
theorem aqN:Yv PP i p (.tup ts) (.int z)=(0≤z∧aml PP i p z.toNat (ts[z.toNat]?)):=by
 unfold Yv aml
 cases h:ts[z.toNat]? <;>simp [h]
theorem axs:aml PP i p k (some t)=PP i (p++[.idx k]) t:=id rfl
theorem aCy:axa dp ρ P=dp ρ (al1 P):=id rfl
theorem axt:al1 P i p (.sh x)=P x:=id rfl
def axu(P:D→Prop)(x:Option D):Prop:=match x with|some x=>P x|none=>False
theorem aCz:ahS dp ρ P=dp ρ (acv P):=id rfl
theorem axv:acv P i p u=axu P u.flat:=by
 unfold acv axu
 cases u.flat<;>rfl
theorem axw:axu P (some x)=P x:=id rfl
theorem aqO:(Tr.sh x).flat=some x:=id rfl
theorem aqP:(Tr.lst (ys.map .sh)).flat=some (.lst ys):=by simp only [Tr.flat,agK];rfl
theorem amm:(Tr.lst []).flat=some (.lst []):=id rfl
theorem aCA:ahT de ρ PT=de ρ (axb PT):=id rfl
theorem axx:axb PT x=PT (.sh x):=id rfl
theorem aCB:axd de ρ PT=de ρ (axc PT):=id rfl
theorem axy:axc PT (.lst ys)=PT (.lst (ys.map .sh)):=by
 show (True∧_)=_
 rw [true_and]
 rfl
theorem axz:Yw i dt E ρ=dt ρ (al2 i E ρ):=id rfl
theorem aqQ:al2 i E ρ t=iw i (.gn none t) ρ E.nx:=id rfl
theorem aqR:kJ i p u ρ PR=sH i ρ (aec i p u ρ PR):=id rfl
theorem amn:aec i p u ρ PR o t=iw i (.gn o (t.put p u)) ρ PR:=id rfl
def ahV(t:Tr)(s:Stp)(p:List Stp)(u:Tr)(x:Option Tr):Tr:=match x with|some w=>t.put1 s (w.put p u)|none=>t
theorem axA:Tr.put t [] u=u:=by cases t<;>rfl
theorem axB:Tr.put (.obj C gs) (.fld f::p) u=ahV (.obj C gs) (.fld f) p u (gs.lookup f):=by
 simp only [Tr.put,Tr.sub,ahV]<;>(cases gs.lookup f<;>rfl)
theorem aqS:ahV (.obj C gs) (.fld f) p u (some w)= .obj C (zE f (w.put p u) gs):=id rfl
theorem axC:Tr.put (.lst ts) (.idx k::p) u=ahV (.lst ts) (.idx k) p u (ts[k]?):=by
 simp only [Tr.put,Tr.sub,ahV]<;>(cases ts[k]? <;>rfl)
theorem aqT:ahV (.lst ts) (.idx k) p u (some w)= .lst (ts.set k (w.put p u)):=id rfl
theorem axD:zE f u ((g,t)::gs)=if f=g then (g,u)::gs else (g,t)::zE f u gs:=id rfl
theorem aqU:zE f u []=[(f,u)]:=id rfl
theorem amo:([]:List Stp)++p=p:=id rfl
theorem ahW{s1:Stp}{p1:List Stp}:(s1::p1)++p=s1::(p1++p):=id rfl
theorem aqV:axf dp de E ρ=dp ρ (aee de E ρ):=id rfl
theorem amq:aee de E ρ i p (.lst ts)=de ρ (aed E ρ i p ts):=id rfl
theorem amr:aed E ρ i p ts x=(ts.length<sizeLine∧kJ i p (.lst (ts++[.sh x])) ρ E.nx):=id rfl
theorem ams:JQ T dp f dt E ρ=dt ρ (al4 T dp f E ρ):=id rfl
theorem aqW:al4 T dp f E ρ t=dp ρ (al3 T f t E ρ):=id rfl
theorem aqX:al3 T f t E ρ i p (.obj C gs)=((T C∧gs.length<1000)∧kJ i p (.obj C (zE f t gs)) ρ E.nx):=id rfl
theorem axE:aCk dp dk dt E ρ=dt ρ (al7 dp dk E ρ):=id rfl
theorem aqY:al7 dp dk E ρ t=dp ρ (al6 dk t E ρ):=id rfl
theorem aqZ:al6 dk t E ρ i p (.lst ts)=dk ρ (al5 i p ts t E ρ):=id rfl
theorem aq0:al5 i p ts t E ρ (.int z)=((0≤z∧z<ts.length)∧kJ i p (.lst (ts.set z.toNat t)) ρ E.nx):=id rfl
def amt(i:Nat)(d:DS)(E:DEn)(ρ:Rh)(x:Option D):Prop:=match x with|some x=>iw i (.sh x) ρ (d E)|none=>False
theorem axF:acx i d E ρ=sH i ρ (agO i d E ρ):=id rfl
theorem aq1:agO i d E ρ o t=amt i d E ρ t.data:=by
 unfold agO amt
 cases t.data with
 |none=>simp
 |some x=>simp
theorem aq2:amt i d E ρ (some x)=iw i (.sh x) ρ (d E):=id rfl
theorem aq3:aej dt ρ P=dt ρ (agR P):=id rfl
theorem aq4:agR P t=acA P t.data:=id rfl
theorem aq5:acA P (some x)=P x:=id rfl
def aCC(C:Addr)(x:Option (List (Str×D))):Option D:=x.map (.obj C)
def axG(f:Str)(x:Option D)(r:Option (List (Str×D))):Option (List (Str×D)):=match x with|some x=>r.map ((f,x):: ·)|none=>none
theorem axH:(Tr.sh x).data=some x:=by simp only [Tr.data]
theorem axI:(Tr.lst (ys.map .sh)).data=some (.lst ys):=by simp only [Tr.data,al8];rfl
theorem aq6:(Tr.lst []).data=some (.lst []):=by simp only [Tr.data,qK];rfl
theorem axJ:(Tr.obj C gs).data=aCC C (xQ gs):=by simp only [Tr.data];rfl
theorem axK:xQ ((f,t)::gs)=axG f t.data (xQ gs):=by
 simp only [xQ,axG]<;>(cases t.data<;>rfl)
theorem aq7:xQ []=some []:=by simp only [xQ]
theorem axL{r:List (Str×D)}:axG f (some x) (some r)=some ((f,x)::r):=id rfl
theorem aq8{r:List (Str×D)}:aCC C (some r)=some (.obj C r):=id rfl
theorem axM:dAr [] ρ PA=PA [] []:=by simp only [dAr]
theorem axN:dAr (.e de::as) ρ PA=de ρ (aCl as ρ PA):=by simp only [dAr];rfl
theorem axO:dAr (.l i::as) ρ PA=sH i ρ (aCn as ρ PA):=by simp only [dAr];rfl
theorem aq9:aCl as ρ PA x=dAr as ρ (arD x PA):=id rfl
theorem axP{i:Nat}:dAr (.b i dp::as) ρ PA=dp ρ (aCm i as ρ PA):=by simp only [dAr];rfl
theorem aq_{i j:Nat}:aCm i as ρ PA j p t=(j=i∧dAr as ρ (arB t PA)):=id rfl
theorem aCD:arB t PA xs os=PA (.b t::xs) os:=id rfl
theorem ara{i:Nat}:fP (.b i dp::as)=fP as:=id rfl
theorem arb:aCn as ρ PA o t=dAr as ρ (arT o t PA):=id rfl
theorem aCE:arD x PA xs os=PA (.d x::xs) os:=id rfl
theorem aCF:arT o t PA xs os=PA (.t t::xs) (o::os):=id rfl
theorem arc:axg S as ρ PM=dAr as ρ (Bu S (fP as) ρ PM):=id rfl
theorem amu:Bu S js ρ PM xs os=apG S xs (aef js os ρ PM):=id rfl
theorem amv:aef js os ρ PM t us=(us.length=os.length∧PM t (Uu js os us ρ)):=id rfl
theorem ard:fP []=[]:=id rfl
theorem arf:fP (.e de::as)=fP as:=id rfl
theorem arh:fP (.l i::as)=i::fP as:=id rfl
theorem ari:Uu (i::js) (o::os) (u::us) ρ=Uu js os us (ρ.set i (.gn o u)):=id rfl
theorem amw:Uu [] os us ρ=ρ:=by simp only [Uu]
theorem arj:axh C m i as S ρ PM=sH i ρ (aay C m i as S ρ PM):=id rfl
theorem amx:aay C m i as S ρ PM o (.obj C gs)=(fj m gs=none∧dAr as ρ (arT o (.obj C gs) (Bu S (fP (.l i::as)) ρ PM))):=by
 unfold aay
 apply propext
 constructor
 ·rintro ⟨⟨gs',h,h2⟩,h3⟩
  cases h
  exact ⟨h2,h3⟩
 ·rintro ⟨h2,h3⟩
  exact ⟨⟨gs,rfl,h2⟩,h3⟩
theorem ark:fj f ((g,t)::gs)=if f=g then some 0 else (fj f gs).map (· +1):=id rfl
theorem amy:fj f []=none:=id rfl
theorem ahX:(none:Option Nat).map (· +1)=none:=id rfl
theorem axQ:aCr i dm E ρ=dm ρ (ama i E):=id rfl
theorem arl:ama i E (.sh x) ρ=iw i (.sh x) ρ E.nx:=id rfl
theorem axR:aCs i dm E ρ=dm ρ (amb i E):=id rfl
theorem arn:amb i E t ρ=iw i (.gn none t) ρ E.nx:=id rfl
theorem aro:axi dm E ρ=dm ρ (aeg E):=id rfl
theorem amz:aeg E t ρ=E.nx ρ:=id rfl
theorem axS:aCt dm E ρ=dm ρ (amc E):=id rfl
theorem arp:amc E t ρ=E.rg t ρ:=id rfl
theorem axT:ame dt E ρ=dt ρ (amd E ρ):=id rfl
theorem arq:amd E ρ t=E.rg t ρ:=id rfl
theorem ars:axj E ρ=E.rg (.sh .non) ρ:=id rfl
theorem aCG:aEH dm ρ PB=dm ρ (axl PB):=id rfl
theorem axU:axl PB (.sh (.bl b)) ρ=PB b ρ:=id rfl
theorem aCH:aEI dc ρ PB=dc ρ (axm PB):=id rfl
theorem axV:axm PB b ρ=PB (!b) ρ:=id rfl
theorem aCI:aEJ dc d1 d2 E ρ=dc ρ (axn d1 d2 E):=id rfl
theorem axW:axn d1 d2 E b ρ=ifB b (stT d1 E ρ) (stT d2 E ρ):=id rfl
theorem art:aei C S dA ρ PT=dA ρ (aqH C S PT):=id rfl
theorem axX:aqH C S PT ys=apG S (.t (.obj C [])::ys.map Ar.d) (aqG PT):=id rfl
theorem axY:aqG PT (.sh .non) [t]=PT t:=id rfl
theorem aru:Bv [] ls ρ PL=PL []:=by simp only [Bv]
theorem axZ:Bv (j::js) (l::ls) ρ PL=sH j ρ (amf l js ls ρ PL):=by simp only [Bv];rfl
theorem arv:amf l js ls ρ PL (some l) t=Bv js ls ρ (agQ t PL):=by
 unfold amf
 simp only [true_and]
theorem arw:agQ t PL us=PL (t::us):=id rfl
theorem arx:(aeh js ls Q).nx ρ=Bv js ls ρ (Q (.sh .non)):=id rfl
theorem arz:(aeh js ls Q).rg t ρ=Bv js ls ρ (Q t):=id rfl
theorem amA:slG (.d x::xs) ls= .sh x::slG xs ls:=id rfl
theorem amB:slG (.t t::xs) (l::ls)= .gn (some l) t::slG xs ls:=id rfl
theorem ax0:slG (.b t::xs) ls= .bg t::slG xs ls:=id rfl
theorem amC:slG [] ls=[]:=id rfl
theorem Yy:gY n (.d x::xs)=gY (n+1) xs:=id rfl
theorem Yz:gY n (.t t::xs)=n::gY (n+1) xs:=id rfl
theorem ahY:gY n (.b t::xs)=gY (n+1) xs:=id rfl
theorem YB:gY n []=[]:=id rfl
end
end DL
end
section
namespace DL
open PySem L2
variable[bG]
def wX:D→Option KD
 | .int i=>some (.inl i)
 | .str x=>some (.inr x)
 |_=>none
theorem Ft{a b:KD}(h:kOf a=kOf b):a=b:=by
 cases a<;>cases b<;>simp only [kOf,Sum.inl.injEq,Sum.inr.injEq,reduceCtorEq] at h
 ·rw [h]
 ·rw [uE h]
theorem acB{K:PySem.W.Frag}{F:Hp}{v:V}{x:D}{k:KD}(r:Rep K F v x)(h:wX x=some k):v=kV (kOf k)∧adN k:=by
 cases x<;>simp only [wX,Option.some.injEq,reduceCtorEq] at h
 ·subst h;cases r;exact ⟨rfl,trivial⟩
 ·subst h
  cases r with
  |str _ a b=>exact ⟨rfl,a,b⟩
section
variable{α:Type}
def eQ(k:KD):List (KD×α)→Option α
 |[]=>none
 |(g,x)::r=>if g=k then some x else eQ k r
def jJ(k:KD)(x:α):List (KD×α)→List (KD×α)
 |[]=>[(k,x)]
 |(g,y)::r=>if g=k then (g,x)::r else (g,y)::jJ k x r
def amD(k:KD)(l:List (KD×α)):List (KD×α):=l.filter fun p=> !decide (p.1=k)
end
section
variable{K:PySem.W.Frag}{F H F' H':Hp}
theorem aaz{α:Type}{k:KD}: ∀{vs:List (Key×V)} {ks:List (KD×α)},vs.map (·.1)=ks.map (fun p=>kOf p.1)→ ∀x,eQ k ks=some x→ ∃i:Nat,(ks.map (·.2))[i]? =some x∧ ∀v,(vs.map (·.2))[i]? =some v→valV vs (kOf k)=some v
 |[],[],_,x,h=>by simp [eQ] at h
 |[],_::_,e,_,_=>by simp at e
 |_::_,[],e,_,_=>by simp at e
 |(g',w)::vs,(g,y)::r,e,x,h=>by
  simp only [List.map_cons,List.cons.injEq] at e
  obtain ⟨e1,e2⟩:=e
  unfold eQ at h
  split at h
  ·rename_i z
   subst z
   simp at h
   subst h
   exact ⟨0,by simp,fun v hv=>by simp at hv;subst hv;exact valV_pos e1⟩
  ·rename_i z
   obtain ⟨i,h1,h2⟩:=aaz e2 x h
   refine ⟨i+1,by simpa using h1,fun v hv=> ?_⟩
   rw [valV_neg (by show ¬g'=kOf k;rw [e1];exact fun q=>z (Ft q))]
   exact h2 v (by simpa using hv)
theorem agS{α:Type}{k:KD}: ∀{vs:List (Key×V)} {ks:List (KD×α)},vs.map (·.1)=ks.map (fun p=>kOf p.1)→eQ k ks=none→valV vs (kOf k)=none
 |[],[],_,h=>rfl
 |[],_::_,e,_=>by simp at e
 |_::_,[],e,_=>by simp at e
 |(g',w)::vs,(g,y)::r,e,h=>by
  simp only [List.map_cons,List.cons.injEq] at e
  obtain ⟨e1,e2⟩:=e
  unfold eQ at h
  split at h
  ·cases h
  ·rename_i z
   rw [valV_neg (by show ¬g'=kOf k;rw [e1];exact fun q=>z (Ft q))]
   exact agS e2 h
theorem acC{v:V}{ks:List (KD×D)}(e:Same F H)(b:jR K F H v (.dct ks)): ∃a vs,v= .ref a∧H a=some (.dK vs)∧vs.map (·.1)=ks.map (fun p=>kOf p.1)∧aY K F (vs.map (·.2)) (ks.map (·.2)):=by
 rcases b with b|⟨fp,b,nt⟩
 ·cases b with
  |dct h k o r=>exact ⟨_,_,rfl,e _ _ h,k,r⟩
 ·cases b with
  |dct h k o r n=>exact ⟨_,_,rfl,h,k,r⟩
theorem amE{a:Addr}{vs:List (Key×V)}{ks:List (KD×D)}{k:KD}(g:H a=some (.dK vs))(hk:vs.map (·.1)=ks.map (fun p=>kOf p.1))(r:aY K F (vs.map (·.2)) (ks.map (·.2))):
  ∃o,DGet H a (kV (kOf k)) o∧o.isSome=(eQ k ks).isSome∧ ∀x,eQ k ks=some x→ ∃u,o=some u∧Rep K F u x:=by
 refine ⟨_,DGet.k g, ?_,fun x hx=> ?_⟩
 ·cases h:eQ k ks with
  |none=>rw [agS hk h];rfl
  |some x=>
   obtain ⟨i,h1,h2⟩:=aaz hk x h
   obtain ⟨u,hu,_⟩:=r.getD h1
   rw [h2 u hu]
   rfl
 ·obtain ⟨i,h1,h2⟩:=aaz hk x hx
  obtain ⟨u,hu,ru⟩:=r.getD h1
  exact ⟨u,h2 u hu,ru⟩
end
section
variable{X:Cx}{F0 H0:Hp}{e a b c o f:Expr}{pos p apos pos' cpos:Pos}
def dD0:DTr:=fun _ P=>P (.dct [])
theorem ax2:LTr X F0 H0 (.Dict [] [] pos) dD0:=peW pe_dnewK fun σ H Q ⟨F,ρ,fps,P,E,q,k⟩ A nA=>by
 have nF:=E.x.w.free nA
 exact k _ q F _ _ [A] (.adQ E.x.w nA) (.dct (vs:=[]) (ks:=[]) upd_same nF rfl (by simp) .nil) (by simp) fun a ha=>by simp at ha;subst ha;exact nA
def ax3(P:D→Prop)(x:Option D):Prop:=match x with|some y=>P y|none=>False
def ax4(ks:List (KD×D))(P:D→Prop)(k:Option KD):Prop:=match k with|some k=>ax3 P (eQ k ks)|none=>False
def ax5(ks:List (KD×D))(P:D→Prop)(y:D):Prop:=ax4 ks P (wX y)
def ax6(dk:DE)(ρ:Rh)(P:D→Prop)(x:D):Prop:=match x with| .dct ks=>dk ρ (ax5 ks P)|_=>False
def aCJ(do_ dk:DE):DE:=fun ρ P=>do_ ρ (ax6 dk ρ P)
def arA(n:Bool)(ks:List (KD×D))(P:Bool→Prop)(k:Option KD):Prop:=match k with|some k=>P (if n then !(eQ k ks).isSome else (eQ k ks).isSome)|none=>False
def ax7(n:Bool)(y:D)(P:Bool→Prop)(x:D):Prop:=match x with| .dct ks=>arA n ks P (wX y)|_=>False
def arC(n:Bool)(do_:DE)(ρ:Rh)(P:Bool→Prop)(y:D):Prop:=do_ ρ (ax7 n y P)
def avc(n:Bool)(dk do_:DE):DT:=fun ρ P=>dk ρ (arC n do_ ρ P)
def ax8(ks:List (KD×D))(P:D→Prop)(k:Option KD)(z:D):Prop:=match k with|some k=>P ((eQ k ks).getD z)|none=>False
def ax9(ks:List (KD×D))(dz:DE)(ρ:Rh)(P:D→Prop)(y:D):Prop:=dz ρ (ax8 ks P (wX y))
def ax_(dk dz:DE)(ρ:Rh)(P:D→Prop)(x:D):Prop:=match x with| .dct ks=>dk ρ (ax9 ks dz ρ P)|_=>False
def aya(do_ dk dz:DE):DE:=fun ρ P=>do_ ρ (ax_ dk dz ρ P)
end
section
variable{K:PySem.W.Frag}{F H F' H':Hp}
theorem amF{α:Type}{k:KD}: ∀{vs:List (Key×V)} {ks:List (KD×α)},vs.map (·.1)=ks.map (fun p=>kOf p.1)→(vs.any fun kv=>decide (kv.1=kOf k))=(eQ k ks).isSome
 |[],[],_=>rfl
 |[],_::_,e=>by simp at e
 |_::_,[],e=>by simp at e
 |(g',w)::vs,(g,y)::r,e=>by
  simp only [List.map_cons,List.cons.injEq] at e
  obtain ⟨e1,e2⟩:=e
  have ih:=amF (k:=k) e2
  rw [List.any_cons,ih,show eQ k ((g,y)::r)=if g=k then some y else eQ k r from rfl]
  by_cases z:g=k
  ·subst z;simp [show g'=kOf g from e1]
  ·have: ¬g'=kOf k:=by rw [show g'=kOf g from e1];exact fun q=>z (Ft q)
   simp [this,z]
theorem YC{α:Type}{k:KD}{x:α}: ∀{ks:List (KD×α)},eQ k ks=none→jJ k x ks=ks++[(k,x)]
 |[],_=>rfl
 |(g,y)::r,h=>by
  unfold eQ at h
  unfold jJ
  split at h
  ·cases h
  ·rename_i z
   rw [if_neg z,YC h]
   rfl
theorem amG{k:KD}{v:V}{t:Tr}{fp:List Addr}{vs:List (Key×V)}{ks:List (KD×Tr)}{f0:List Addr}(hk:vs.map (·.1)=ks.map (fun p=>kOf p.1))(hn:(ks.map (·.1)).Nodup)(L:bh K F H (vs.map (·.2)) (ks.map (·.2)) f0)(nd0:f0.Nodup)(s:Same F F')(m: ∀a∈f0,H' a=H a∧F' a=Option.none)
  (T:cU K F' H' v t fp) (nd:fp.Nodup) (dj: ∀a∈fp,a∉f0): ∃f1,(putK vs (kOf k) v).map (·.1)=(jJ k t ks).map (fun p=>kOf p.1)∧bh K F' H' ((putK vs (kOf k) v).map (·.2)) ((jJ k t ks).map (·.2)) f1∧f1.Nodup∧ ∀a∈f1,a∈fp∨a∈f0:=by
 unfold putK
 rw [amF hk]
 cases h:eQ k ks with
 |none=>
  rw [YC h,if_neg (by simp)]
  refine ⟨f0++fp,by simp [hk], ?_, ?_,fun a ha=>(List.mem_append.mp ha).symm⟩
  ·rw [List.map_append,List.map_append]
   exact (L.hh s m).snoc T
  ·rw [List.nodup_append]
   exact ⟨nd0,nd,fun a ha b hb z=>dj b hb (z ▸ ha)⟩
 |some x=>
  rw [if_pos (by rfl)]
  have key: ∀{vs:List (Key×V)} {ks:List (KD×Tr)},vs.map (·.1)=ks.map (fun p=>kOf p.1)→(ks.map (·.1)).Nodup→ ∀x,eQ k ks=some x→ ∃i,(ks.map (·.2))[i]? =some x∧
    (vs.map fun kv=>if kv.1=kOf k then (kv.1,v) else kv).map (·.1)=(jJ k t ks).map (fun p=>kOf p.1)∧(vs.map fun kv=>if kv.1=kOf k then (kv.1,v) else kv).map (·.2)=(vs.map (·.2)).set i v∧(jJ k t ks).map (·.2)=(ks.map (·.2)).set i t:=by
   intro vs
   induction vs with
   |nil=>intro ks e _ x h;cases ks with
    |nil=>simp [eQ] at h
    |cons=>simp at e
   |cons q vs ih=>
    intro ks e hn x h1
    cases ks with
    |nil=>simp at e
    |cons r ks=>
     obtain ⟨g',w⟩:=q
     obtain ⟨g,y⟩:=r
     simp only [List.map_cons,List.cons.injEq] at e
     obtain ⟨e1,e2⟩:=e
     rw [List.map_cons,List.nodup_cons] at hn
     unfold eQ at h1
     unfold jJ
     split at h1
     ·rename_i z
      subst z
      cases h1
      refine ⟨0,by simp, ?_, ?_,by simp⟩
      all_goals
       have same:(vs.map fun kv=>if kv.1=kOf g then (kv.1,v) else kv)=vs:=by
        have: ∀kv∈vs, ¬kv.1=kOf g:=fun kv hkv z=>by
         have h1:kOf g∈vs.map (·.1):=by rw [←z];exact List.mem_map.mpr ⟨kv,hkv,rfl⟩
         rw [e2] at h1
         obtain ⟨p,hp,e⟩:=List.mem_map.mp h1
         exact hn.1 (List.mem_map.mpr ⟨p,hp,Ft e⟩)
        rw [List.map_congr_left (g:=id) (fun kv hkv=>by rw [if_neg (this kv hkv)];rfl),List.map_id]
       rw [List.map_cons,same]
       simp [e1,e2]
     ·rename_i z
      obtain ⟨i,h0,h2,h3,h4⟩:=ih e2 hn.2 x h1
      have n: ¬g'=kOf k:=by rw [show g'=kOf g from e1];exact fun q=>z (Ft q)
      refine ⟨i+1,by simpa using h0, ?_, ?_, ?_⟩
      ·rw [if_neg z,List.map_cons,if_neg n,List.map_cons,List.map_cons,h2]
       simp [e1]
      ·rw [List.map_cons,if_neg n,List.map_cons,h3]
       simp
      ·rw [if_neg z,List.map_cons,h4]
       simp
  obtain ⟨i,h1,h2,h3,h4⟩:=key hk hn x h
  rw [h2,h3,h4]
  obtain ⟨w,fq,q1,q2,q3,q4,q5⟩:=L.focus nd0 h1
  obtain ⟨f1,r1,r2,r3⟩:=q5 F' H' v t fp ⟨s,fun a ha _=>m a ha,nd,fun a ha=> .inr (dj a ha)⟩ T
  exact ⟨f1,rfl,r1,r2,fun a ha=>(r3 a ha).imp id (·.1)⟩
end
section
variable{X:Cx}{F0 H0:Hp}{e a b c o f:Expr}{pos p apos pos' cpos:Pos}
def acD(i:Nat)(p:List Stp)(ks:List (KD×Tr))(t:Tr)(E:DEn)(ρ:Rh)(k:Option KD):Prop:=match k with|some k=>(ks.length<sizeLine∧(ks.map (·.1)).Nodup)∧kJ i p (.dct (jJ k t ks)) ρ E.nx|none=>False
def aek(i:Nat)(p:List Stp)(ks:List (KD×Tr))(t:Tr)(E:DEn)(ρ:Rh)(y:D):Prop:=acD i p ks t E ρ (wX y)
def amH(dk:DE)(t:Tr)(E:DEn)(ρ:Rh)(i:Nat)(p:List Stp)(u:Tr):Prop:=match u with| .dct ks=>dk ρ (aek i p ks t E ρ)|_=>False
def amI(dp:DP)(dk:DE)(E:DEn)(t:Tr)(ρ:Rh):Prop:=dp ρ (amH dk t E ρ)
def aaA(dp:DP)(dk:DE)(d:DM):DS:=fun E ρ=>d ρ (amI dp dk E)
theorem Bx{α:Type}{k:KD}{x:α}{p:KD×α}: ∀{ks:List (KD×α)},p∈jJ k x ks→p.1=k∨p∈ks
 |[],h=>by simp [jJ] at h;left;rw [h]
 |(g,y)::r,h=>by
  unfold jJ at h
  split at h
  ·rename_i e
   rcases List.mem_cons.mp h with z|z
   ·left;rw [z];exact e
   ·right;exact List.mem_cons_of_mem _ z
  ·rcases List.mem_cons.mp h with z|z
   ·right;rw [z];simp
   ·exact (Bx z).imp id (List.mem_cons_of_mem _)
theorem ahZ{dp:DP}{dk:DE}{d:DM}(hu:X.A.units+64<cLine)(ho:LP X F0 H0 o dp)(hk:LE X F0 H0 a dk)(hv:LM X F0 H0 b d)(hs:swapsWith b (some (.Subscript o a pos')) pos.line X.env=pure false:=by rfl):
  LS X F0 H0 (.Assign [.Subscript o a pos'] b pos) (aaA dp dk d):=
 psW (ps_dput (by omega) ho hk hv hs) fun D σ H ⟨F,ρ0,fps0,E,R,q,k⟩=>⟨F,ρ0,fps0,_,R,q,fun t ρ ht F1 H1 v fps fp R1 s1 r nd nf=>⟨F1,ρ,fps,_,R1,ht,fun i pp u hu' F2 H2 w e2 at2=>by
  cases u<;>first|exact False.elim hu'|skip
  rename_i ks
  refine ⟨F2,ρ,fps,_,R1.ext e2,hu',fun y hy F3 H3 z e3 rz=> ?_⟩
  have hy:acD i pp ks t E ρ (wX y):=hy
  unfold acD at hy
  split at hy
  ·rename_i kk hkk
   obtain ⟨rfl,hkok⟩:=acB rz hkk
   have R3:=(R1.ext e2).ext e3
   have at3:=at2.mono e3.n
   have r3:=(r.ext e2).ext e3
   obtain ⟨fq,q1,q2,q3,q5,q4⟩:=R3.axe at3 (Uq hy.2)
   cases q1 with
   |dct g nF hk hko L=>
    rename_i A vs f0
    rw [List.nodup_cons] at q2
    have nA:A∉fp:=fun z=>(nf A z).2 (q5 A (by simp))
    have m: ∀b∈f0,upd H3 A (HO.dK (putK vs (kOf kk) v)) b=H3 b∧F3 b=none:=fun b hb=>⟨upd_ne fun e=>q2.1 (by rw [←e];exact hb),(bh.none L b hb).1⟩
    obtain ⟨f1,h1,h2,h3,h4⟩:=amG (k:=kk) hk hy.1.2 L q2.2 (.refl F3) m (r3.t_ nA) nd fun b hb z=>(nf b hb).2 (q5 b (List.mem_cons_of_mem _ z))
    obtain ⟨ρ',fps',hp,R'⟩:=q4 F3 _ _ _ (.upd (u:= .dK (putK vs (kOf kk) v)) R3.x.w nF (by simp) (.of g)) (.dct upd_same nF h1 (fun p hp=>(Bx hp).elim (fun e=>by rw [e];exact hkok) (hko p)) h2) (List.nodup_cons.mpr ⟨fun z=>by
     rcases h4 A z with y|y
     ·exact nA y
     ·exact q2.1 y,h3⟩) (fun b hb=>by
     rcases List.mem_cons.mp hb with y|y
     ·subst y;exact .inl (by simp)
     ·rcases h4 b y with y|y
      ·exact .inr (nf b y)
      ·exact .inl (List.mem_cons_of_mem _ y)) _ hy.2
    have hlen:vs.length<sizeLine:=by
     have:=congrArg List.length hk
     simp only [List.length_map] at this
     have:=hy.1.1
     omega
    exact ⟨A,_,rfl,DPut.k g hlen,k.nx F3 _ _ _ _ ((s1.trans e2.f).trans e3.f) R' hp⟩
  ·exact hy.elim⟩⟩
def ayb(P:Tr→Rh→Prop)(ρ:Rh)(t:Tr):Prop:=P t ρ
def ayc(d:DTr):DM:=fun ρ P=>d ρ (ayb P ρ)
theorem aCK{d:DTr}(h:LTr X F0 H0 e d):LM X F0 H0 e (ayc d):=peW h fun σ H Q ⟨F,ρ,fps,P,R,q,k⟩=>⟨F,ρ,fps,_,R,q,fun t ht F1 H1 v fp e1 r nd nf=>k t ρ ht F1 H1 v fps fp (R.ext e1) e1.f r nd fun a ha=>R.fresh (nf a ha)⟩
def amJ(i:Nat)(p:List Stp)(ks:List (KD×D))(P:Tr→Rh→Prop)(ρ:Rh)(k:KD)(x:Option D):Prop:=match x with|some x=>kJ i p (.dct ((amD k ks).map fun q=>(q.1, .sh q.2))) ρ (P (.sh x))|none=>False
def ael(i:Nat)(p:List Stp)(ks:List (KD×D))(P:Tr→Rh→Prop)(ρ:Rh)(k:Option KD):Prop:=match k with|some k=>amJ i p ks P ρ k (eQ k ks)|none=>False
def aem(i:Nat)(p:List Stp)(ks:List (KD×D))(P:Tr→Rh→Prop)(ρ:Rh)(y:D):Prop:=ael i p ks P ρ (wX y)
def amK(dk:DE)(P:Tr→Rh→Prop)(ρ:Rh)(i:Nat)(p:List Stp)(x:Option D):Prop:=match x with|some (.dct ks)=>dk ρ (aem i p ks P ρ)|_=>False
def agT(dk:DE)(P:Tr→Rh→Prop)(ρ:Rh)(i:Nat)(p:List Stp)(u:Tr):Prop:=(∃ks,u= .dct ks)∧amK dk P ρ i p u.flat
def ayd(dp:DP)(dk:DE):DM:=fun ρ P=>dp ρ (agT dk P ρ)
end
section
variable{P:D→Prop}{PT:Tr→Prop}{PM:Tr→Rh→Prop}{PB:Bool→Prop}{PP:Nat→List Stp→Tr→Prop}{ρ:Rh}{E:DEn}{dp:DP}{da db dz:DE}{dt:DTr}{dm:DM}{ks:List (KD×D)}{kt:List (KD×Tr)}{k:KD}{x y:D}{t:Tr}{i:Nat}{p:List Stp}{z:Int}{w:Tx}
theorem aye:wX (.int z)=some (.inl z):=id rfl
theorem ayf:wX (.str w)=some (.inr w):=id rfl
theorem aEL:dD0 ρ PT=PT (.dct []):=id rfl
theorem ayg:aCJ da db ρ P=da ρ (ax6 db ρ P):=id rfl
theorem ayh:ax6 db ρ P (.dct ks)=db ρ (ax5 ks P):=id rfl
theorem ayi:ax5 ks P y=ax4 ks P (wX y):=id rfl
theorem ayj:ax4 ks P (some k)=ax3 P (eQ k ks):=id rfl
theorem ayk:ax3 P (some x)=P x:=id rfl
theorem arE:avc false da db ρ PB=da ρ (arC false db ρ PB):=id rfl
theorem arF:avc true da db ρ PB=da ρ (arC true db ρ PB):=id rfl
theorem ayl{n:Bool}:arC n db ρ PB y=db ρ (ax7 n y PB):=id rfl
theorem aym{n:Bool}:ax7 n y PB (.dct ks)=arA n ks PB (wX y):=id rfl
theorem arG:arA false ks PB (some k)=PB (eQ k ks).isSome:=id rfl
theorem arH:arA true ks PB (some k)=PB (!(eQ k ks).isSome):=id rfl
theorem arI:aya da db dz ρ P=da ρ (ax_ db dz ρ P):=id rfl
theorem ayn:ax_ db dz ρ P (.dct ks)=db ρ (ax9 ks dz ρ P):=id rfl
theorem ayo:ax9 ks dz ρ P y=dz ρ (ax8 ks P (wX y)):=id rfl
theorem ayp:ax8 ks P (some k) x=P ((eQ k ks).getD x):=id rfl
theorem aCL:ayc dt ρ PM=dt ρ (ayb PM ρ):=id rfl
theorem ayq:ayb PM ρ t=PM t ρ:=id rfl
theorem amL:aaA dp da dm E ρ=dm ρ (amI dp da E):=id rfl
theorem arJ:amI dp da E t ρ=dp ρ (amH da t E ρ):=id rfl
theorem arK:amH da t E ρ i p (.dct kt)=da ρ (aek i p kt t E ρ):=id rfl
theorem amM:aek i p kt t E ρ y=acD i p kt t E ρ (wX y):=id rfl
theorem arL:acD i p kt t E ρ (some k)=((kt.length<sizeLine∧(kt.map (·.1)).Nodup)∧kJ i p (.dct (jJ k t kt)) ρ E.nx):=id rfl
theorem arM:(Tr.dct (ks.map fun q=>(q.1, .sh q.2))).flat=some (.dct ks):=by
 simp only [Tr.flat,List.map_map]
 have:ks.map ((fun x:KD×Tr=>x.2)∘fun q=>(q.1,Tr.sh q.2))=(ks.map (·.2)).map Tr.sh:=by rw [List.map_map];rfl
 rw [this,agK]
 show some (D.dct _)=_
 have h: ∀l:List (KD×D),(l.map ((fun x:KD×Tr=>x.1)∘fun q=>(q.1,Tr.sh q.2))).zip (l.map (·.2))=l:=by
  intro l
  induction l with
  |nil=>rfl
  |cons a l ih=>simp [ih]
 rw [h]
theorem acE: ∀ks:List (KD×D),Us (ks.map fun q=>(q.1, .sh q.2))=some ks
 |[]=>rfl
 |(k,x)::r=>by
  simp [Us,Tr.data,acE r]
theorem ayr:(Tr.dct (ks.map fun q=>(q.1, .sh q.2))).data=some (.dct ks):=by
 simp only [Tr.data,acE]
 rfl
theorem acF: ∀(ks:List (KD×D)),jJ k (.sh x) (ks.map fun q=>(q.1, .sh q.2))=(jJ k x ks).map fun q=>(q.1,Tr.sh q.2)
 |[]=>rfl
 |(g,y)::r=>by
  unfold jJ
  rw [List.map_cons]
  simp only
  split
  ·simp
  ·simp [acF r]
end
end DL
end
section
namespace DL
open PySem L2 PyProof.Rows
variable[bG]
section
variable{X:Cx}
def aCM:DR2
 | .tup a, .tup b,P=>a.length+b.length≤sizeLine∧P (.tup (a++b))
 |_,_,_=>False
theorem ays{a b:List D}{P:D→Prop}:aCM (.tup a) (.tup b) P=(a.length+b.length≤sizeLine∧P (.tup (a++b))):=id rfl
end
end DL
end
section
namespace DL
open PySem L2
instance (priority:=10) bG.empty:bG:=⟨[],none⟩
end DL
end
section
namespace DL
open PySem L2 PySem.Spec PyProof.Rows LamX FbM
variable[bG]
structure K_(sc scope:Scope)(a:Str):Prop where
 kind:scope.kind= .function
 co:scope.isCoroutine=false
 gen:scope.isGenerator=false
 par:scope.names.lookup a=some .local
 own: ∀y∈scope.names,y.2≠ .cell∧(y.2= .local→y.1=a)
 free: ∀y∈scope.names,y.2= .free→sc.names.lookup y.1=some .cell∨sc.names.lookup y.1=some .free
def aen(sc scope:Scope)(a:Str):Bool:=
 decide (scope.kind= .function)&& !scope.isCoroutine&& !scope.isGenerator&&decide (scope.names.lookup a=some .local)&&scope.names.all fun y=> !decide (y.2= .cell)&&(!decide (y.2= .local) || decide (y.1=a))&&(!decide (y.2= .free) || decide (sc.names.lookup y.1=some .cell) || decide (sc.names.lookup y.1=some .free))
theorem amN{sc scope:Scope}{a:Str}(h:aen sc scope a=true):K_ sc scope a:=by
 unfold aen at h
 simp only [Bool.and_eq_true,Bool.or_eq_true,Bool.not_eq_true',decide_eq_true_eq,decide_eq_false_iff_not,List.all_eq_true] at h
 obtain ⟨⟨⟨⟨h1,h2⟩,h3⟩,h5⟩,h4⟩:=h
 refine ⟨h1,h2,h3,h5,fun y hy=>⟨(h4 y hy).1.1,fun e=>((h4 y hy).1.2).resolve_left fun z=>z e⟩,fun y hy e=> ?_⟩
 rcases (h4 y hy).2 with (z|z)|z
 ·exact absurd e z
 ·exact .inl z
 ·exact .inr z
theorem K_.has{X:Cx}{scope:Scope}{a:Str}(L:K_ X.env.scope scope a)(ok:X.Ok): ∀y∈scope.names,y.2= .free→ ∃c,X.env.cells.lookup y.1=some c:=fun y hy e=>by
 rcases L.free y hy e with k|k
 ·exact ok.has _ (.inl k)
 ·exact ok.has _ (.inr k)
def BJ(X:Cx)(A:Around)(outer:List Env)(s:Shared)(H:Hp)(E:XK)(scope:Scope)(f c':Addr)(a:Str):Cx:={ lamCx X A outer s H E scope f c' with N:=X.N++[a] }
section
variable{X:Cx}{pins:List (Addr×Obj)}{σ:L2.St}{H HZ:Hp}{s s1:Shared}
theorem aeo{A:Around}{outer:List Env}{E:XK}{scope:Scope}{f c':Addr}{h₁:Heap}{tk:Nat}{a:Str}{v:V}{u:Value}(I:Inv X pins σ H s)(L:K_ X.env.scope scope a)(hna:a∉X.N)(e0:Env0 X.prog X.w X.K X.mg X.base A outer s1 HZ)(hd:A.handled=none)
  (un:Un (frs X.stack) [] H HZ s.heap s1.heap) (rv:RelV v u) (hns:h₁.Ns s1.heap.objs.size fun y=>([(a,u)]:List (Str×Value)).reverse.lookup y) (kp: ∀b o,s1.heap.get? b=some o→h₁.get? b=some o):
  Inv (BJ X A outer s1 HZ E scope f c' a) [] (σ++[some v]) HZ { s1 with heap:=h₁,toks:=tk }:=by
 have hfree:=L.has I.ok
 have cm: ∀{y c},(cloFrom X.env.cells scope.names []).lookup y=some c→X.env.cells.lookup y=some c:=fun {y c} e=>by
  rcases cloFrom_mem (PySem.mem_of_lookup e) with hm|⟨h1,h2⟩
  ·cases hm
  ·obtain ⟨c1,hc⟩:=hfree _ h1 rfl
   have hc:X.env.cells.lookup y=some c1:=hc
   have e2:c=c1:=by
    rw [h2,hc]<;>rfl
   rw [e2]
   exact hc
 have look: ∀{y},scope.names.lookup y=some .free→ ∃c,(cloFrom X.env.cells scope.names []).lookup y=some c:=fun {y} hl=>by
  have hy:(y,NameKind.free)∈scope.names:=PySem.mem_of_lookup hl
  exact mem_lookup (cloFrom_has (cells:=X.env.cells) (acc:=[]) hy)
 have cellK: ∀{c:Addr} {v:Option Value},H c=none→s.heap.IsCell c v→h₁.IsCell c v:=fun {c v} n ⟨o,ho,hd⟩=>by
  obtain ⟨sl,q⟩:=un.any ho n (by simp)
  exact ⟨_,kp _ _ q,hd⟩
 have noA: ∀b:Addr,b∉(BJ X A outer s1 HZ E scope f c' a).ex:=fun b z=>absurd (show b∈([]:List Addr) from z) (by simp)
 refine ⟨⟨e0.mod,L.kind,rfl,rfl,Nat.le_refl _,fun y z c e1 e2=>I.ok.inj y z c (cm e1) (cm e2),fun y hy=> ?_,fun y c z _=> ?_,fun _=>hd,Around.frames_deeper e0.frames, .inr ⟨rfl,rfl⟩,fun b z=>absurd z (noA b),e0.bs,e0.bsz,fun b _ _=>noA b,
   fun b z=>absurd z (noA b),e0.funs,e0.frf⟩,
  rfl,e0.bare,Un.kept kp,⟨_,hns,fun i y v' e1 e2 e3=> ?_⟩,fun y c e=> ?_,e0.hok.fresh (Nat.le_refl _),fun y c e=> ?_,fun q hq=>absurd (show q∈([]:List (Addr×Obj))++[] from hq) (by simp),e0.hok.kept kp, ?_⟩
 ·have hy:scope.names.lookup y=some .cell∨scope.names.lookup y=some .free:=hy
  rcases hy with hy|hy
  ·exact absurd rfl (L.own _ (PySem.mem_of_lookup hy)).1
  ·exact look hy
 ·have z:false=true:=z
  cases z
 ·have e3:Vis scope y:=e3
  have e1:(X.N++[a])[i]? =some y:=e1
  by_cases hi:i<X.N.length
  ·rw [List.getElem?_append_left hi] at e1
   rw [List.getElem?_append_left (by rw [I.len];exact hi)] at e2
   have yN:y∈X.N:=List.mem_of_getElem? e1
   rcases e3 with k|k|k
   ·have:=(L.own _ (PySem.mem_of_lookup k)).2 rfl
    exact absurd (this ▸ yN) hna
   ·exact absurd rfl (L.own _ (PySem.mem_of_lookup k)).1
   ·obtain ⟨m,hn,hl⟩:=I.loc
    have hvis:Vis X.env.scope y:=(L.free _ (PySem.mem_of_lookup k) rfl).elim (fun k=> .inr (.inl k)) (fun k=> .inr (.inr k))
    obtain ⟨w',r,q⟩:=hl i y v' e1 e2 hvis
    obtain ⟨c2,h2⟩:=look k
    refine ⟨w',r, .inr ⟨.inr k,c2,h2, ?_⟩⟩
    have c1:=cm h2
    rcases q with ⟨k',_⟩|⟨_,c3,e',z⟩
    ·have k':X.env.scope.names.lookup y=some .local:=k'
     rcases L.free _ (PySem.mem_of_lookup k) rfl with k2|k2<;>rw [show X.env.scope.names.lookup y=_ from k2] at k'<;>cases k'
    ·rw [c1] at e'
     cases e'
     exact cellK (I.freeC y _ c1) z
  ·have hi2:i=X.N.length:=by
    have:=(List.getElem?_eq_some_iff.mp e1).1
    rw [List.length_append] at this
    simp only [List.length_cons,List.length_nil] at this
    omega
   rw [hi2,List.getElem?_append_right (Nat.le_refl _),Nat.sub_self] at e1
   rw [hi2, ←I.len,List.getElem?_append_right (Nat.le_refl _),Nat.sub_self] at e2
   simp only [List.getElem?_cons_zero,Option.some.injEq] at e1 e2
   subst e1 e2
   exact ⟨u,rv, .inl ⟨L.par,by simp [List.lookup]⟩⟩
 ·obtain ⟨w',z⟩:=I.cell y c (cm e)
  exact ⟨w',cellK (I.freeC y c (cm e)) z⟩
 ·obtain ⟨v,o,ho,hd⟩:=I.cell y c (cm e)
  exact un.free c o ho (I.freeC y c (cm e)) (by simp)
 ·show (σ++[some v]).length=(X.N++[a]).length
  rw [List.length_append,List.length_append,I.len]
  rfl
theorem ah0{Q:VK}{E:XK}{A:Around}{scope:Scope}{f c':Addr}{params:Arguments}{body:Expr}{a:Str}{v:V}{u:Value}{k:Nat}{pm ctv:Value}{t:TE}(I:Inv X pins σ H s)(L:K_ X.env.scope scope a)(hna:a∉X.N)
  (hf:s.heap.get? f=some (PySem.W.kla_obj "<lambda>" (X.env.qual++"<lambda>") params body scope (cloFrom X.env.cells scope.names []) pm c' ctv)) (hc:H c'=some (CodeO c' (X.env.qual++"<lambda>")))
  (hbind:bindArgs (PySem.W.kla_fn "<lambda>" (X.env.qual++"<lambda>") params body scope (cloFrom X.env.cells scope.names []) pm (.ref c') ctv) ⟨[u],[]⟩=pure [(a,u)])
  (e0:Env0 X.prog X.w X.K X.mg X.base A X.stack s H) (hr:Room (k+1) A) (rv:RelV v u)
  (hbody:Room k (A.deeper (lamEnv X scope s.heap.objs.size f c'))→PE (BJ X A X.stack s H E scope f c' a) body t) (ht:t (σ++[some v]) H Q):
  codeAny (model X.prog X.w) A (.call (.ref f) ⟨[u],[]⟩) (CR (L2.CX X.prog X.w) X.stack X.prog X.w H s Q E) s:=by
 obtain ⟨⟨oc,vs,tt,hoc,hdc,hvc⟩,_,_⟩:=I.hok c' _ hc
 refine PySem.W.kla_callFunE hr.depth hf rfl L.co L.gen rfl ⟨c',oc,vs,tt,rfl,hoc,hdc,hvc⟩ ?_
 rw [hbind]
 refine wpAny_pure (wpAny_newFunctionEnv (fun y hy=>(L.own y hy).1) (fun y hy=> ?_) (fun h₁ hns hsb=>⟨I.nolimit.fresh _ hsb, ?_⟩) L.kind)
 ·rw [List.mem_singleton] at hy
  rw [hy]
  exact L.par
 show codeAny _ _ (.expr body (lamEnv X scope s.heap.objs.size f c')) _ _
 have kp: ∀b o,s.heap.get? b=some o→h₁.get? b=some o:=fun b o e=>hsb.extBut b o (Nat.ne_of_lt (Heap.lt_size e)) (Heap.get?_push_of_some _ e)
 have J:Inv (BJ X A X.stack s H E scope f c' a) [] (σ++[some v]) H { s with heap:=h₁,toks:=s.toks+([(a,u)]:List (Str×Value)).length }:=
  aeo I L hna e0 hr.hd Un.refl rv hns kp
 refine PySem.W.kla_codeExpr (wpAny_mono ((hbody (hr.deeper _)).run [] _ _ H Q J ht) (fun v s' hq=> ?_) fun e s' hq=>hq)
 obtain ⟨w',H',J',rv,q⟩:=hq
 exact ⟨w',H',J'.os,J'.bare,J'.base,J'.hok,rv,q⟩
theorem ah1{T:List (Addr×Str)}{c P:Addr}{params:Arguments}{body:Expr}{scope:Scope}{pos:Pos}{E:Value→Shared→Prop}{Q:Value→Shared→Prop}(I:Inv X pins σ H s)(TB:TabB X.base X.mg c P)(hcode:X.env.code= .ref c)
  (hm:(P,X.env.qual++"<lambda>")∈T) (hu: ∀p∈T,p.1=P→p.2=X.env.qual++"<lambda>") (hT:Tabs T H) (hdef:defaultsOf params X.env=([],[])) (hfree: ∀y∈scope.names,y.2= .free→ ∃c,X.env.cells.lookup y.1=some c)
  (h: ∀(f c':Addr) (pm ctv:Value) (H1:Hp) (s':Shared),Inv X pins σ H1 s'→ExtN H H1→(∀b,b≠P→H b≠none→H1 b=H b)→(∀b,H b≠none→H1 b≠none)→Tabs T H1→
   s'.heap.get? f=some (PySem.W.kla_obj "<lambda>" (X.env.qual++"<lambda>") params body scope (cloFrom X.env.cells scope.names []) pm c' ctv)→H1 f=none→f∉frs X.stack→H1 c'=some (CodeO c' (X.env.qual++"<lambda>"))→Q (.ref f) s'):
  wpAny (model X.prog X.w) X.A (eval (.Lambda params body scope pos) X.env) Q E s:=by
 obtain ⟨ps,hP,ht,ha⟩:=hT _ hm
 have bP:s.heap.BuiltinsAt X.mg P:=TB.bm.keeps I.bk
 have hP':s.heap.get? P=some { cls:= .none,data:= .fields ps }:=I.hok P _ hP
 have nofr: ∀f,s.heap.objs.size≤f→f∉frs X.stack:=fun f hf=>(rec_new I hf).fr
 refine PySem.W.kla_eval hdef ?_
 cases hc:codeAmong pos ps.toList with
 |some cv=>
  obtain ⟨c',rfl,hco⟩:=ha pos cv hc
  refine PySem.W.kla_makeFunctionHit (mg:=X.mg) (c:=c) (P:=P) (ps:=ps) (closure_ok hfree) I.ok.glob (I.mod.glob.keeps I.bk) hcode (TB.code.keeps I.bk) hP' ht hc bP fun ctv h' tk hx hsz=> ?_
  exact h _ c' _ ctv H _ (I.kept (t':=tk) fun b o e=>Heap.get?_push_of_some _ (hx b o e)) (ExtN.refl H) (fun _ _ _=>rfl) (fun _ n=>n) hT (Heap.get?_push_size _ rfl) (I.hok.fresh hsz) (nofr _ hsz) hco
 |none=>
  refine PySem.W.kla_makeFunction (mg:=X.mg) (c:=c) (P:=P) (ps:=ps) (closure_ok hfree) I.ok.glob (I.mod.glob.keeps I.bk) hcode (TB.code.keeps I.bk) hP' ht hc TB.gP bP fun c' ctv h' tk hx hge hlt hrec htb=> ?_
  obtain ⟨c2,oc,vs,t,e2,hoc,hd,hv⟩:=hrec
  cases e2
  have hsz:s.heap.objs.size≤h'.objs.size:=Nat.le_trans hge (Nat.le_of_lt hlt)
  have nC:H c'=none:=I.hok.fresh hge
  have off: ∀b,b≠P→H b≠none→upd (upd H P (.tbl (ps++ #[rawInt pos.line,rawInt pos.col, .ref c']))) c' (CodeO c' (X.env.qual++"<lambda>")) b=H b:=fun b n1 n2=>by
   rw [upd_ne (fun z=>n2 (by rw [z];exact nC)),upd_ne n1]
  have atP:upd (upd H P (.tbl (ps++ #[rawInt pos.line,rawInt pos.col, .ref c']))) c' (CodeO c' (X.env.qual++"<lambda>")) P=some (.tbl (ps++ #[rawInt pos.line,rawInt pos.col, .ref c'])):=by
   rw [upd_ne (ne_of_none hP nC),upd_same]
  have hE:ExtN H (upd (upd H P (.tbl (ps++ #[rawInt pos.line,rawInt pos.col, .ref c']))) c' (CodeO c' (X.env.qual++"<lambda>"))):=fun b o e n=>by
   rw [off b (fun z=>n ps (by rw [z,hP] at e;exact (Option.some.inj e).symm)) (by rw [e];simp)]
   exact e
  refine h h'.objs.size c' ((X.mg "__name__").getD .none) ctv _ _ (inv_table (t':=tk) (more:= #[rawInt pos.line,rawInt pos.col, .ref c']) I hP (fun b o hb e=>Heap.get?_push_of_some _ (hx b o hb e)) (Heap.get?_push_of_some _ htb) hge ⟨oc,vs,t,Heap.get?_push_of_some _ hoc,hd,hv⟩) hE off (fun b n=> ?_) (fun p hp=> ?_) (Heap.get?_push_size _ rfl) ?_ (nofr _ hsz) upd_same
  ·by_cases hb:b=P
   ·rw [hb,atP]
    simp
   ·rw [off b hb n]
    exact n
  ·by_cases hb:p.1=P
   ·rw [hu p hp hb,hb]
    have eL:(ps++ #[rawInt pos.line,rawInt pos.col, .ref c']).toList=ps.toList++[rawInt pos.line,rawInt pos.col, .ref c']:=by simp
    refine ⟨_,atP,by rw [eL];exact PySem.TriplesOk_snoc _ _ _ _ ht,fun p' cv hcv=> ?_⟩
    rw [eL] at hcv
    rcases among_app _ ht hcv with z|z
    ·obtain ⟨c0,e1,e2⟩:=ha p' cv z
     exact ⟨c0,e1,hE _ _ e2 codeO_ne⟩
    ·exact ⟨c',z,upd_same⟩
   ·obtain ⟨ps',a1,a2,a3⟩:=hT p hp
    refine ⟨ps',by rw [off _ hb (by rw [a1];simp)];exact a1,a2,fun p' cv hcv=> ?_⟩
    obtain ⟨c0,e1,e2⟩:=a3 p' cv hcv
    exact ⟨c0,e1,hE _ _ e2 codeO_ne⟩
  ·rw [upd_ne (Nat.ne_of_gt hlt),upd_ne (Nat.ne_of_gt (Nat.lt_of_lt_of_le (Heap.lt_size hP') hsz))]
   exact I.hok.fresh hsz
end
end DL
end
section
namespace DL
open PySem L2 PySem.Spec PyProof.Rows LamX FbM PySem.W
theorem ah2{prog:Program}{w:World}{A:Around}(hh:A.handled=none)(I l:Addr)(hne:l≠I)(xs:List V):
  WalksS prog w A I [I,l] [I] (fun a b=>b=a) xs.length (fun i u=> ∃v,xs[i]? =some v∧RelV v u) (fun i s=>s.heap.IsListIter I l i∧ ∃its:List Value,Vals xs its∧s.heap.IsList l its.toArray) where
 sub:=fun b hb=>by simp at hb;simp [hb]
 grefl:=fun _=>rfl
 gtrans:=fun _ _ _ h1 h2=>h2.trans h1
 frame:=fun i s h' _ ⟨st,its,rv,hl⟩ _ hk=>⟨st.at fun o e=>hk I (by simp) o e,its,rv,hl.at fun o e=>hk l (by simp) o e⟩
 item:=fun i s Q E hi ⟨st,its,rv,hl⟩ hQ=>by
  have hz:xs.length=its.length:=rv.length
  refine (Walks.list (prog:=prog) (w:=w) hh I l hne its.toArray).toS.item i s Q E (by rw [List.size_toArray, ←hz];exact hi) ⟨st,hl⟩ fun u s' hP st' mv=> ?_
  refine hQ u s' ?_ ⟨st'.1,its,rv,st'.2⟩ mv
  obtain ⟨u2,h2,r2⟩:=rv.get (List.getElem?_eq_getElem hi)
  have hP:its[i]? =some u:=by simpa using hP
  rw [hP] at h2
  cases h2
  exact ⟨_,List.getElem?_eq_getElem hi,r2⟩
 done:=fun s Q E ⟨st,its,rv,hl⟩ hQ=>by
  have hz:xs.length=its.length:=rv.length
  exact (Walks.list (prog:=prog) (w:=w) hh I l hne its.toArray).toS.done s Q E (by rw [List.size_toArray, ←hz];exact ⟨st,hl⟩) hQ
 self:=fun i s Q E ⟨st,its,rv,hl⟩ hQ=>(Walks.list (prog:=prog) (w:=w) hh I l hne its.toArray).toS.self i s Q E ⟨st,hl⟩ hQ
section
variable{X:Cx}{pins:List (Addr×Obj)}{σ:L2.St}{H:Hp}{s:Shared}
theorem arN{s':Shared}{a b:Addr}{G:Array GenState→Array GenState→Prop}(hG: ∀x y,G x y→y=x)(ra:Rec X pins a)(rb:Rec X pins b)(I:Inv X pins σ H s)(na:H a=none)(nb:H b=none)(mv:Moved [a,b] G s s'):Inv X pins σ H s':=by
 have nit: ∀c u,H c=some u→c∉[a,b]:=fun c u e z=>by
  rcases List.mem_cons.mp z with z|z
  ·rw [z,na] at e
   cases e
  ·rw [List.mem_singleton.mp z,nb] at e
   cases e
 refine I.call' (ch:=[a,b]) mv.os ⟨fun c o e _ _ hc=>mv.heap c o hc e,fun c o e _ _ hc=>⟨o.slots,mv.heap c o hc e⟩,fun _ _ _ n _=>n,fun c o e hc=>⟨o,mv.heap c o hc e⟩,fun _ _ e=>e,fun _ _ _ e=>e,fun c ps e=>⟨#[],by rw [e];simp⟩⟩ (fun c u e=> ?_) (by rw [hG _ _ mv.gens];exact I.bare) fun c hc=> ?_
 ·refine (I.hok c u e).stay (fun d v hc q=>mv.heap d v ?_ q) (fun _ q=>q) fun _ _ q=>q
  rcases hc with z|z
  ·rw [z];exact nit c u e
  ·exact nit d _ z
 ·rcases List.mem_cons.mp hc with z|z
  ·rw [z]
   exact ⟨.inr ra.ge,ra.nl,ra.ce,ra.pn⟩
  ·rw [List.mem_singleton.mp z]
   exact ⟨.inr rb.ge,rb.nl,rb.ce,rb.pn⟩
theorem arO{l q:Addr}{xs:List V}{kf:Nat→Int}{Q:Value→Shared→Prop}{E:Value→Shared→Prop}{Hl:Hp→Prop}(I:Inv X pins σ H s)(h0:Hl H)(hs: ∀H1,Hl H1→SqL X.K H1 l xs)(hne:0<xs.length)(hh:X.A.handled=none){oq:Obj}(hq0:s.heap.get? q=some oq)(hqn:H q=none)(hqf:q∉frs X.stack)
  (turn: ∀(i:Nat) (v:V) (u:Value) (s1:Shared) (H1:Hp),xs[i]? =some v→RelV v u→Inv X pins σ H1 s1→Hl H1→s1.heap.get? q=some oq→
   codeAny (model X.prog X.w) X.A.in1 (.call (.ref q) ⟨[u],[]⟩) (CR (L2.CX X.prog X.w) X.stack X.prog X.w H1 s1 (fun r H2=>Hl H2∧r= .int (kf i)) (fun _ _ _=>False)) s1)
  (hQ: ∀i v u s1 H1,i=argBest (fun i j=>decide (kf i<kf j)) (xs.length - 1)→xs[i]? =some v→RelV v u→Inv X pins σ H1 s1→Hl H1→Q u s1):
  wpAny (model X.prog X.w) X.A (call (.builtin "min") [.ref l] [(Str.ofString "key", .ref q)]) Q E s:=by
 obtain ⟨its,rv,pl,_⟩:=I.list (hs H h0)
 have hl:=pl.isList
 have hlt:l<s.heap.objs.size:=by
  obtain ⟨_,e,_⟩:=hl
  exact Heap.lt_size e
 have hIl:l≠s.heap.objs.size:=Nat.ne_of_lt hlt
 have hA:X.A.in1.handled=none:=hh
 have nI:H s.heap.objs.size=none:=I.hok.fresh (Nat.le_refl _)
 have rI:Rec X pins s.heap.objs.size:=rec_new I (Nat.le_refl _)
 refine call_min_walkK (iter_listW (A:=X.A.in1) hA hl fun s₂ e _ st hfp hnew kp=> ?_)
 have I2:Inv X pins σ H s₂:=by
  rw [e]
  exact (rI.turn (t':=s.toks) I nI fun c o hc ho=>Heap.get?_push_of_some _ ho)
 have rS:Rec X pins s₂.heap.objs.size:=rec_new I2 (Nat.le_refl _)
 have nS:H s₂.heap.objs.size=none:=I2.hok.fresh (Nat.le_refl _)
 have qI:q≠s.heap.objs.size:=Nat.ne_of_lt (Heap.lt_size hq0)
 have qS:q≠s₂.heap.objs.size:=Nat.ne_of_lt (Heap.lt_size (kp _ _ hq0))
 refine ⟨s.heap.objs.size,[s.heap.objs.size,l],[s.heap.objs.size],(fun a b=>b=a),xs.length,_,_,fun s1=> ∃H1,Inv X pins σ H1 s1∧Hl H1∧H1 s₂.heap.objs.size=none∧H1 s.heap.objs.size=none∧s1.heap.get? q=some oq∧H1 q=none,fun i k _=> ∃t,k= .int (kf i) t,fun i j=>decide (kf i<kf j),rfl,ah2 hA _ l hIl xs,⟨st.1,its,rv,st.2⟩,hfp,hne,⟨?_,fun _ _ _ _ h _=>h, ?_, ?_⟩,⟨H,I2,h0,nS,nI,kp _ _ hq0,hqn⟩,fun v s' hP hJ=> ?_⟩
 ·rintro s1 s2 ⟨H1,I1,hh1,n1,n2,q1,q2⟩ mv
  exact ⟨H1,arN (fun _ _ h=>h) rS rI I1 n1 n2 mv,hh1,n1,n2,mv.heap _ _ (by simp only [List.mem_cons,List.not_mem_nil,or_false];exact fun z=>z.elim qS qI) q1,q2⟩
 ·rintro i u s1 o Q' E' hi ⟨v,hv,ru⟩ ⟨H1,I1,hh1,n1,n2,q1,q2⟩ st1 hS hq
  refine wpAny_call (codeAny_mono (turn i v u s1 H1 hv ru I1 hh1 q1) fun r s2 hr=> ?_)
  cases r with
  |error e=>
   obtain ⟨_,_,_,_,_,_,_,_,_,_,_,_,z⟩:=(show L2.CX X.prog X.w X.stack H1 s1 _ e s2 from hr)
   exact z.elim
  |ok fl=>
   cases fl with
   |next=>exact False.elim hr
   |brk=>exact False.elim hr
   |cont=>exact False.elim hr
   |ret k=>
    obtain ⟨r',H',os,bare,un,hok,rk,hh2,er⟩:=(show CE X.stack X.prog X.w H1 s1 _ k s2 from hr)
    subst er
    obtain ⟨t,rfl⟩:=rk
    have I3:Inv X pins σ H' s2:=I1.call' os un hok bare (fun b y=>absurd y List.not_mem_nil)
    obtain ⟨oI,hoI,hcI⟩:=id st1.1
    have kS:=un.keep _ _ hS n1 rS.fr (by simp)
    have kI:=un.keep _ _ hoI n2 rI.fr (by simp)
    obtain ⟨its2,rv2,pl2,_⟩:=I3.list (hs H' hh2)
    exact hq _ s2 ⟨H',I3,hh2,un.free _ _ hS n1 (by simp),un.free _ _ hoI n2 (by simp),un.keep _ _ q1 q2 hqf (by simp),un.free _ _ q1 q2 (by simp)⟩ ⟨⟨oI,kI,hcI⟩,its2,rv2,pl2.isList⟩ kS ⟨t,rfl⟩ fun _ _ h=>h
 ·rintro i j ki kj s1 Q' E' _ ⟨t1,rfl⟩ ⟨t2,rfl⟩ h
  exact CmpOf.ints_lt (P:=fun i v=> ∃t,v= .int (kf i) t) kf (fun i v h=>h) i j _ _ _ _ _ ⟨t1,rfl⟩ ⟨t2,rfl⟩ h
 ·obtain ⟨x,hx,rx⟩:=hP
  obtain ⟨H1,I1,hh1,_⟩:=hJ
  exact hQ _ x v s' H1 rfl hx rx I1 hh1
variable[bG]
def agU(K:PySem.W.Frag)(T:List (Addr×Str))(Pt:Addr)(te:TE)(tb:TE):TE:=fun σ H Q=>te σ H fun v H1=>Tabs T H1∧ ∃(l:Addr) (xs:List V) (kf:Nat→Int) (Hl:Hp→Prop),v= .ref l∧0<xs.length∧(∀H2,Hl H2→SqL K H2 l xs)∧
 (∀H2,ExtN H1 H2→(∀b,b≠Pt→H1 b≠none→H2 b=H1 b)→(∀b,H1 b≠none→H2 b≠none)→Tabs T H2→Hl H2)∧(∀i x H2,xs[i]? =some x→Hl H2→tb (σ++[some x]) H2 fun r H3=>ExtN H2 H3∧Hl H3∧r= .int (kf i))∧
 ∀x H2,xs[argBest (fun i j=>decide (kf i<kf j)) (xs.length - 1)]? =some x→Hl H2→Q x H2
theorem ah3{T:List (Addr×Str)}{c P:Addr}{e:Expr}{te tb:TE}{a:Str}{k:Nat}{params:Arguments}{body:Expr}{scope:Scope}{p lpos kpos pos:Pos}(hg:Gl X "min")(hm:X.mg "min"=none)(he0:PE X e te)
  (TB:TabB X.base X.mg c P) (hcode:X.env.code= .ref c) (hmT:(P,X.env.qual++"<lambda>")∈T) (hu: ∀p∈T,p.1=P→p.2=X.env.qual++"<lambda>") (hr:Room (k+2) X.A) (L:K_ X.env.scope scope a) (hna:a∉X.N) (hdef:defaultsOf params X.env=([],[]))
  (hbind: ∀(q:Str) (cl:List (Str×Addr)) (pm cv ctv u:Value),bindArgs (PySem.W.kla_fn "<lambda>" q params body scope cl pm cv ctv) ⟨[u],[]⟩=pure [(a,u)])
  (hbody: ∀(A:Around) (s:Shared) (H:Hp) (E:XK) (f c':Addr),Room k (A.deeper (lamEnv X scope s.heap.objs.size f c'))→PE (BJ X A X.stack s H E scope f c' a) body tb)
  (he1:starEach [e] X.env=(false,eval e X.env)::starEach [] X.env:=by rfl) (hv:bootBuiltins "min"=some (.builtin "min"):=by rfl)
  (he:backTo pos (starEach [e] X.env)=(false,eval e X.env)::backTo pos (starEach [] X.env):=by rfl) (hpl:(backTo pos (starEach [e] X.env)).any (·.1)=false:=by rfl):
  PE X (.Call (.Name "min" p) [e] [⟨some "key", .Lambda params body scope lpos,kpos⟩] pos) (agU X.K T P te tb):=by
 refine ⟨fun pins s σ H Q I h=> ?_⟩
 refine wpAny_Call_Name_kw (ld_blt I hg hm hv ?_ (by decide) (by decide))
 refine PyProof.Rows.callWith_kw (thn ((pa_cons (hs:=he1) he0 pa_nil).run pos pins s σ H (fun vs H1=>match vs with
  |[v]=>Tabs T H1∧ ∃(l:Addr) (xs:List V) (kf:Nat→Int) (Hl:Hp→Prop),v= .ref l∧0<xs.length∧(∀H2,Hl H2→SqL X.K H2 l xs)∧(∀H2,ExtN H1 H2→(∀b,b≠P→H1 b≠none→H2 b=H1 b)→(∀b,H1 b≠none→H2 b≠none)→Tabs T H2→Hl H2)∧(∀i x H2,xs[i]? =some x→Hl H2→tb (σ++[some x]) H2 fun r H3=>ExtN H2 H3∧Hl H3∧r= .int (kf i))∧
    ∀x H2,xs[argBest (fun i j=>decide (kf i<kf j)) (xs.length - 1)]? =some x→Hl H2→Q x H2
  |_=>False) I h) fun us s1 ⟨vs,H1,I1,r1,q1⟩=> ?_) he hpl rfl rfl
 cases r1 with
 |nil=>exact q1.elim
 |cons ru r'=>
  cases r' with
  |cons _ _=>exact q1.elim
  |nil=>
  obtain ⟨hT,l,xs,kf,Hl,evl,hne,hsq,hext,hrun,hfin⟩:=q1
  subst evl
  have ru:=show _=Value.ref l from ru
  subst ru
  show wpAny _ _ (evalAll ((do let v←eval (.Lambda params body scope lpos) X.env;standAt pos;pure v)::[])) _ _ s1
  refine wpAny_evalAll_cons (wpAny_bind (ah1 I1 TB hcode hmT hu hT hdef (L.has I1.ok) fun f c' pm' ctv H2 s2 I2 eN oN sN T2 hf hfn hfr hco=>wpAny_bind (wpAny_standAt (wpAny_pure (wpAny_evalAll_nil ?_)))))
  refine arO (kf:=kf) (Hl:=fun H3=>Hl H3∧H3 c'=some (CodeO c' (X.env.qual++"<lambda>"))) I2 ⟨hext _ eN oN sN T2,hco⟩ (fun H3 h=>hsq _ h.1) hne hr.hd hf hfn hfr (fun i x u s3 H3 hx rx I3 hh3 hf3=> ?_) (fun i x u s3 H3 ei hx rx I3 hh3=> ?_)
  ·have e0:=I3.env0
   have e1:Env0 X.prog X.w X.K X.mg X.base X.A.in1 X.stack s3 H3:=⟨e0.frames,e0.mod,e0.bs,e0.bsz,e0.funs,e0.frf,e0.hok,e0.bare⟩
   refine codeAny_mono (ah0 (E:=fun _ _ _=>False) (t:=tb) (k:=k) I3 L hna hf3 hh3.2 (hbind _ _ _ _ _ _) e1 hr.in1 rx (fun hr2=>hbody _ _ _ _ _ _ hr2) (hrun i x H3 hx hh3.1)) fun rr s4 hrr=> ?_
   cases rr with
   |error e=>exact hrr
   |ok fl=>
    cases fl with
    |next=>exact hrr
    |brk=>exact hrr
    |cont=>exact hrr
    |ret u4=>
     obtain ⟨v4,H4,a1,a2,a3,a4,a5,eN4,hl4,er⟩:=(show CE X.stack X.prog X.w H3 s3 _ u4 s4 from hrr)
     exact ⟨v4,H4,a1,a2,a3,a4,a5,⟨hl4,eN4 _ _ hh3.2 (fun ps=>codeO_ne ps)⟩,er⟩
  ·subst ei
   exact ⟨x,H3,I3,rx,hfin x H3 hx hh3.1⟩
end
end DL
end
section
namespace DL
open PySem L2
variable[bG]
theorem qp.arP{K:PySem.W.Frag}{F H:Hp}{B:V→Tr→Prop}: ∀{vs:List V} {xs:List Ar} {ls:List V} {fs:List (List Addr)},qp K F H B vs xs ls fs→fs.length=ls.length
 |_,_,_,_, .nil=>rfl
 |_,_,_,_, .d _ q=>q.arP
 |_,_,_,_, .b _ q=>q.arP
 |_,_,_,_, .t _ q=>by simp [q.arP]
theorem amO{H:Hp}:vU H []=H:=by
 funext a
 unfold vU
 rw [if_neg (by simp)]
section
variable{X:Cx}{F0 H0:Hp}{e a b c o:Expr}{es:List Expr}{pos p apos pos':Pos}{x m:Str}
def aep(P:Tr→Prop)(r:Tr)(us:List Tr):Prop:=us=[]∧P r
def JS(S:iY)(P:Tr→Prop)(xs:List Ar)(_:List (Option V)):Prop:=S xs (aep P)
def ayt(S:iY)(as:List DAr):DTr:=fun ρ P=>dAr as ρ (JS S P)
theorem aeq{S:iY}{as:List DAr}(hl:fP as=[]){K:PySem.W.Frag}{F H F1 H1:Hp}{σ:L2.St}{ρ:Rh}{fps:List (List Addr)}{vs:List V}{xs:List Ar}{os:List (Option V)}{P:Tr→Prop}{Q:VK}{E:XK}(R:bJ K F0 H0 F H σ ρ fps)(e1:Ext F H F1 H1)
  (at1:zF K F1 H1 σ ρ ρ as vs xs os) (h:JS S P xs os) (k: ∀t,P t→ ∀F' H' v fp,Ext F H F' H'→cU K F' H' v t fp→fp.Nodup→(∀a∈fp,H a=none)→Q v H'):qu K S vs H1 Q E:=by
 have R1:=R.ext e1
 obtain ⟨ls,fs,ρ0,fps0,h1,h2,h3,h4,h5,h6,h7,h8⟩:=bJ.aCo as (by rw [hl];exact List.nodup_nil) R1 at1
 rw [hl] at h8
 have hls:ls=[]:=by cases h8;rfl
 subst hls
 have hfs:fs=[]:=List.eq_nil_of_length_eq_zero h1.arP
 subst hfs
 refine ⟨F1,xs,_,[],[],R1.sm,h1.imp (al_ (by rw [hl];simp) (fun a ha=>by cases ha) h4 (fun j _=>h7 j (by rw [hl];simp))),List.nodup_nil,h,fun r us hp hlen F' H' v fp fs' e2 T Ts nd' nw=> ?_⟩
 cases Ts
 have e2':Ext F1 H1 F' H':=by
  have:vU H1 ([]:List (List Addr)).flatten=H1:=amO
  rw [this] at e2
  exact e2
 refine k r hp.2 F' H' v fp (e1.trans e2') T (by simpa using nd') fun a ha=> ?_
 rcases nw a (by simp [ha]) with z|z
 ·cases z
 ·exact e1.free z
def aaB(C:Addr)(m:Str)(as:List DAr)(S:iY)(ρ:Rh)(P:Tr→Prop)(_:Option V)(t:Tr):Prop:=(∃gs,t= .obj C gs∧fj m gs=none)∧dAr as ρ (arB t (JS S P))
def aer(C:Addr)(m:Str)(i:Nat)(as:List DAr)(S:iY):DTr:=fun ρ P=>Br i ρ (aaB C m as S ρ P)
theorem ah4{k i:Nat}{S:iY}{E:XK}{C:Addr}{as:List DAr}{pl:Sem Bool}(ho:PE X o (tVar i))(M:agP X.prog X.w X.K X.mg X.base m k C S)(hr:Room k X.A)(hx:Passes CX0 X E)(ha:LAG X F0 H0 (e::es) as)(hl:fP as=[]:=by rfl)
  (hst:starEach (e::es) X.env=(false,eval e X.env)::starEach es X.env:=by rfl) (hpl:(backTo pos (starEach es X.env)).any (·.1)=false:=by rfl)
  (ht:eval (.Call (.Attribute o m apos) (e::es) [] pos) X.env=(do
   let ov←eval o X.env
   standAt apos.atName
   let (f,first)←holding [ov] (getMethod ov m pl)
   callWith pos f first (backTo pos (starEach (e::es) X.env)) (backToKw pos (keywordEach [] X.env))):=by rfl):
  LTr X F0 H0 (.Call (.Attribute o m apos) (e::es) [] pos) (aer C m i as S):=by
 obtain ⟨c,f,fd,ps,hm,F,hb⟩:=M
 exact peW (pe_meth ho c hm F hr hb .nil hx ha hst hpl ht) fun σ H Q ⟨F,ρ,fps,P,R,q,kk⟩=>by
  obtain ⟨o,t,hs,⟨gs,rfl,hf⟩,q⟩:=Yu q
  obtain ⟨v,fp,g1,g3,g5⟩:=R.aw7 hs
  cases g3 with
  |obj g n hk L=>
   refine ⟨_,g1,_,_,_,rfl,g,look_none hk hf,F,ρ,fps,_,R,q,fun xs os hxs F1 H1 vs e1 at1=> ?_⟩
   show qu X.K S (_::(vs++[])) H1 Q E
   rw [List.append_nil]
   exact aeq (as:= .b i (dPl i)::as) hl R e1 (.b (p:=[]) ⟨_,_,hs,rfl,g1,rfl⟩ at1) hxs kk
def Qa(C:Addr)(m:Str)(as:List DAr)(S:iY)(ρ:Rh)(P:Tr→Rh→Prop)(_:Option V)(t:Tr):Prop:=(∃gs,t= .obj C gs∧fj m gs=none)∧dAr as ρ (arB t (Bu S (fP as) ρ P))
def arQ(C:Addr)(m:Str)(i:Nat)(as:List DAr)(S:iY):DM:=fun ρ P=>Br i ρ (Qa C m as S ρ P)
def ayu(P:D→Prop)(t:Tr):Prop:=match t with| .sh x=>P x|_=>False
def aEM(d:DTr):DE:=fun ρ P=>d ρ (ayu P)
inductive DIt where
 |e (d:DTr)
 |m (d:DP)
def aes(P:List Tr→Rh→Prop)(t:Tr)(ts:List Tr)(ρ:Rh):Prop:=P (t::ts) ρ
mutual
def xT:List DIt→Rh→(List Tr→Rh→Prop)→Prop
 |[],ρ,P=>P [] ρ
 | .e d::r,ρ,P=>d ρ fun t=>xT r ρ (aes P t)
 | .m d::r,ρ,P=>d ρ fun i p u=>kJ i p .hole ρ fun ρ1=>xT r ρ1 (aes P u)
end
def avd(r:List DIt)(P:List Tr→Rh→Prop)(ρ:Rh)(t:Tr):Prop:=xT r ρ (aes P t)
def amP(r:List DIt)(P:List Tr→Rh→Prop)(u:Tr)(ρ:Rh):Prop:=xT r ρ (aes P u)
def ave(r:List DIt)(P:List Tr→Rh→Prop)(ρ:Rh)(i:Nat)(p:List Stp)(u:Tr):Prop:=kJ i p .hole ρ (amP r P u)
def ayv(K:PySem.W.Frag)(F0 H0:Hp)(its:List DIt):TA:=fun σ H Q=> ∃F ρ fps P,bJ K F0 H0 F H σ ρ fps∧xT its ρ P∧
 ∀ts ρ',P ts ρ'→ ∀F' H' vs fps' fp,Ext F H F' H'→bJ K F0 H0 F' H' σ ρ' fps'→bh K F' H' vs ts fp→fp.Nodup→(∀a∈fp,(H a=none∨a∈fps.flatten)∧a∉fps'.flatten)→(∀a∈fps'.flatten,a∈fps.flatten)→Q vs H'
abbrev aFC(X:Cx)(F0 H0:Hp)(es:List Expr)(its:List DIt):Prop:=PA X es (ayv X.K F0 H0 its)
def amQ:List Tr→Bool
 |[]=>false
 | .sh _::r=>amQ r
 | .hole::r=>amQ r
 |_::_=>true
theorem bh.noK{K:PySem.W.Frag}{F H:Hp}: ∀{vs:List V} {ts:List Tr} {fp:List Addr},bh K F H vs ts fp→amQ ts=true→ ∀ks:List Key,vs≠ks.map kV:=by
 intro vs ts
 induction ts generalizing vs with
 |nil=>intro fp _ h;cases h
 |cons t ts ih=>
  intro fp T h ks e
  cases T with
  |cons t1 r1=>
   cases ks with
   |nil=>cases e
   |cons k ks=>
    rw [List.map_cons] at e
    obtain ⟨e1,e2⟩:=List.cons.inj e
    cases t1<;>first|exact ih r1 h ks e2|(cases k<;>cases e1)
def amR(P:Tr→Rh→Prop)(ts:List Tr)(ρ:Rh):Prop:=ts.length≤sizeLine∧amQ ts=true∧P (.tup ts) ρ
def aCN(its:List DIt):DM:=fun ρ P=>xT its ρ (amR P)
def aaC(i:Nat)(t:Tr)(ρ:Rh):Rh:=match t with| .sh x=>ρ.set i (.sh x)|t=>ρ.set i (.gn none t)
def La:List Nat→List Tr→Rh→Rh
 |i::is,t::ts,ρ=>La is ts (aaC i t ρ)
 |_,_,ρ=>ρ
theorem bJ.aaC{K:PySem.W.Frag}{F H:Hp}{σ:L2.St}{ρ:Rh}{fps:List (List Addr)}{v:V}{t:Tr}{fp:List Addr}(R:bJ K F0 H0 F H σ ρ fps)(h:cU K F H v t fp)(nd:fp.Nodup)(n0: ∀a∈fp,H0 a=none∧a∉fps.flatten)(i:Nat):bJ K F0 H0 F H (σ.set i (some v)) (DL.aaC i t ρ) (fps.set i fp):=by
 cases h with
 |sh r=>exact R.set r i
 |hole=>exact R.acw .hole nd n0 i
 |lst g n z q=>exact R.acw (.lst g n z q) nd n0 i
 |tup g n z q=>exact R.acw (.tup g n z q) nd n0 i
 |obj g n z q=>exact R.acw (.obj g n z q) nd n0 i
 |dct g n z k q=>exact R.acw (.dct g n z k q) nd n0 i
 |dtt g n z k q=>exact R.acw (.dtt g n z k q) nd n0 i
 |dn w g n k b q=>exact R.acw (.dn w g n k b q) nd n0 i
def aFf(g:TGs)(is:List Nat):Prop:= ∀(K:PySem.W.Frag) (F0 H0 F H:Hp) σ ρ fps vs ts fp (Q:L2.St→Hp→Prop),bJ K F0 H0 F H σ ρ fps→bh K F H vs ts fp→fp.Nodup→(∀a∈fp,H0 a=none∧a∉fps.flatten)→ts.length=is.length→(∀σ' fps',bJ K F0 H0 F H σ' (La is ts ρ) fps'→Q σ' H)→g vs σ H Q
def ayw(is:List Nat)(E:DEn)(ρ:Rh)(t:Tr):Prop:=match t with| .tup ts=>ts.length=is.length∧E.nx (La is ts ρ)|_=>False
def aEN(is:List Nat)(d:DTr):DS:=fun E ρ=>d ρ (ayw is E ρ)
end
end DL
end
section
namespace DL
open PySem L2
variable[bG]
section
variable{K:PySem.W.Frag}{F H F' H':Hp}
theorem zW.fn{v w w':V}{s:Stp}(h:zW H v s w)(h':zW H v s w'):w=w':=by
 cases s with
 |fld f=>
  obtain ⟨a,C,dx,fs,rfl,h2,h3⟩:=h
  obtain ⟨a',C',dx',fs',e,h2',h3'⟩:=h'
  cases e
  rw [h2] at h2'
  cases h2'
  rw [h3] at h3'
  exact Option.some.inj h3'
 |idx k=>
  obtain ⟨a,xs,rfl,h2,h3⟩:=h
  obtain ⟨a',xs',e,h2',h3'⟩:=h'
  cases e
  have:xs=xs':=by
   rcases h2 with h2|h2<;>rcases h2' with h2'|h2'<;>rw [h2] at h2'<;>cases h2'<;>rfl
  subst this
  rw [h3] at h3'
  exact Option.some.inj h3'
theorem oG.fn: ∀{p:List Stp} {v w w':V},oG H v p w→oG H v p w'→w=w'
 |[],_,_,_,h,h'=>h.symm.trans h'
 |s::p,v,w,w',⟨u,h1,h2⟩,⟨u',h1',h2'⟩=>by
  have:=h1.fn h1'
  subst this
  exact oG.fn h2 h2'
theorem bh.at: ∀{vs:List V} {ts:List Tr} {fp:List Addr} {k:Nat} {t:Tr},bh K F H vs ts fp→ts[k]? =some t→ ∃v fq,vs[k]? =some v∧cU K F H v t fq
 |_,_,_,_,_, .nil,e=>by simp at e
 |_,_,_,0,_, .cons h r,e=>by simp at e;subst e;exact ⟨_,_,rfl,h⟩
 |_,_,_,k+1,_, .cons h r,e=>by
  obtain ⟨v,fq,h1,h2⟩:=bh.at (k:=k) r (by simpa using e)
  exact ⟨v,fq,by simpa using h1,h2⟩
theorem cU.step{v:V}{t u:Tr}{fp:List Addr}{s:Stp}(h:cU K F H v t fp)(e:t.sub s=some u): ∃w fq,zW H v s w∧cU K F H w u fq:=by
 cases h with
 |sh=>simp [Tr.sub] at e
 |hole=>simp [Tr.sub] at e
 |dct=>simp [Tr.sub] at e
 |dtt=>simp [Tr.sub] at e
 |dn=>simp [Tr.sub] at e
 |lst g n z L=>
  cases s with
  |fld f=>simp [Tr.sub] at e
  |idx k=>
   obtain ⟨w,fq,h1,h2⟩:=L.at (k:=k) (by simpa [Tr.sub] using e)
   exact ⟨w,fq,⟨_,_,rfl, .inl g,h1⟩,h2⟩
 |tup g n z L=>
  cases s with
  |fld f=>simp [Tr.sub] at e
  |idx k=>
   obtain ⟨w,fq,h1,h2⟩:=L.at (k:=k) (by simpa [Tr.sub] using e)
   exact ⟨w,fq,⟨_,_,rfl, .inr g,h1⟩,h2⟩
 |obj g n hk L=>
  cases s with
  |idx k=>simp [Tr.sub] at e
  |fld f=>
   obtain ⟨k,k1,k2⟩:=qU (show List.lookup f _=some u from e)
   obtain ⟨w,fq,h1,h2⟩:=L.at k2
   exact ⟨w,fq,⟨_,_,_,_,rfl,g,Bs hk k1 h1⟩,h2⟩
theorem cU.path: ∀{p:List Stp} {v:V} {t u:Tr} {fp:List Addr},cU K F H v t fp→t.at_ p=some u→ ∃w fq,oG H v p w∧cU K F H w u fq
 |[],v,t,u,fp,h,e=>by
  simp only [Tr.at_,Option.some.injEq] at e
  subst e
  exact ⟨v,fp,rfl,h⟩
 |s::p,v,t,u,fp,h,e=>by
  simp only [Tr.at_] at e
  cases es:t.sub s with
  |none=>rw [es] at e;cases e
  |some t1=>
   rw [es] at e
   obtain ⟨x,f1,h1,h2⟩:=h.step es
   obtain ⟨w,fq,h3,h4⟩:=h2.path e
   exact ⟨w,fq,⟨x,h1,h3⟩,h4⟩
end
section
variable{X:Cx}{F0 H0:Hp}{e a b c o tg:Expr}{es:List Expr}{pos p apos pos':Pos}{x m:Str}
def amS(i:Nat)(ρ:Rh):Prop:=match ρ[i]? with|some (.bg _)=>True|_=>False
def amT(P:List D→Prop)(x:Option D):Prop:=match x with|some d=>dJ (kh d) P|none=>False
def ayx(P:List D→Prop)(_:Nat)(_:List Stp)(u:Tr):Prop:=amT P u.flat
def ayy(ρ:Rh)(P:List D→Prop)(i:Nat)(p:List Stp)(u:Tr):Prop:=amS i ρ∧amT P u.flat
def aEO(d:DP):DI:=fun ρ P=>d ρ (ayy ρ P)
def aCO(K:PySem.W.Frag)(F0 H0:Hp)(d:DI):TI:=fun σ H R=> ∃F ρ fps P,bJ K F0 H0 F H σ ρ fps∧d ρ P∧ ∀xs,P xs→ ∀F' H' J,Ext F H F' H'→Zy K F' H' J xs→R J H'
abbrev LIP(X:Cx)(F0 H0:Hp)(tg e:Expr)(d:DI):Prop:=PI X tg e (aCO X.K F0 H0 d)
def aEP(d:DP):DI:=fun ρ P=>d ρ (ayx P)
def amU(vs:List Nat)(dg:DG)(dt:DT)(de:DTr)(ρ:Rh):List D→(List Tr→Prop)→Prop
 |[],P=>P []
 |x::xs,P=>dg x (eZ ρ vs) fun ρ'=>dt ρ' fun b=>if b=true then de ρ' fun y=>amU vs dg dt de ρ xs fun ys=>P (y::ys) else amU vs dg dt de ρ xs P
def aEQ(vs:List Nat)(di:DI)(dg:DG)(dt:DT)(de:DTr):DTr:=fun ρ P=>di ρ fun xs=>xs.length≤sizeLine∧amU vs dg dt de ρ xs fun ys=>P (.lst ys)
theorem bh.ext{K:PySem.W.Frag}{F H F' H':Hp}(e:Ext F H F' H'): ∀{vs:List V} {ts:List Tr} {fp:List Addr},bh K F H vs ts fp→bh K F' H' vs ts fp
 |_,_,_, .nil=> .nil
 |_,_,_, .cons h r=> .cons (h.ext e) (bh.ext e r)
def aet(E:DEn)(ρ:Rh)(i:Nat)(p:List Stp)(u:Tr):Prop:=match u with| .lst _=>kJ i p (.lst []) ρ E.nx|_=>False
def ayz(d:DP):DS:=fun E ρ=>d ρ (aet E ρ)
end
end DL
end
section
namespace DL
open PySem L2
variable[bG]
section
variable{X:Cx}{F0 H0:Hp}{e a b c o tg:Expr}{es:List Expr}{pos p apos pos':Pos}{x m:Str}
def aaD(P:D→Prop)(i:Nat)(p:List Stp)(u:Tr):Prop:=match u with| .tup ts=>P (.int (ts.length:Nat))| .lst ts=>P (.int (ts.length:Nat))|_=>False
def ayA(d:DP):DE:=fun ρ P=>d ρ (aaD P)
def aeu(P:D→Prop)(x:Option Bool):Prop:=match x with|some b=>P (.bl b)|none=>False
def aev(n:String)(P:D→Prop)(i:Nat)(p:List Stp)(u:Tr):Prop:=match u with| .tup _=>aeu P (kitB "tuple" n)|_=>False
def ayB(n:String)(d:DP):DE:=fun ρ P=>d ρ (aev n P)
theorem bB.snoc{K:PySem.W.Frag}{F H:Hp}{x:Option V}{s:Sl}{fp:List Addr}(q:jt K F0 H0 F H x s fp): ∀{σ:L2.St} {ρ:Rh} {fps:List (List Addr)},bB K F0 H0 F H σ ρ fps→bB K F0 H0 F H (σ++[x]) (ρ++[s]) (fps++[fp])
 |_,_,_, .nil=> .cons q .nil
 |_,_,_, .cons h r=> .cons h (r.snoc q)
def ayC(i:Nat)(kf:Nat→Int)(r:D):Prop:=r= .int (kf i)
def aCP(db:DE)(ρ:Rh)(P:D→Prop)(x:D):Prop:= ∃(xs:List D) (kf:Nat→Int),x= .lst xs∧0<xs.length∧(∀i y,xs[i]? =some y→db (ρ++[.sh y]) (ayC i kf))∧ ∀y,xs[PySem.argBest (fun i j=>decide (kf i<kf j)) (xs.length - 1)]? =some y→P y
def Fv(de db:DE):DE:=fun ρ P=>de ρ (aCP db ρ P)
theorem arR{F1 H1 H2:Hp}{Pt:Addr}{q:Str}(hmT:(Pt,q)∈bG.T)(w:Same F1 H1)(nP:F1 Pt=none)(n:LamX.ExtN H1 H2)(o: ∀b,b≠Pt→H1 b≠none→H2 b=H1 b)(T2:LamX.Tabs bG.T H2)(sN: ∀a,H1 a≠none→H2 a≠none): ∃F2,Ext F1 H1 F2 H2:=by
 classical
 refine ⟨fun a=>if H1 a=none then (if ∃ks:List Key,H2 a=some (.tup (ks.map kV)) then H2 a else F1 a) else F1 a,fun b u hb=> ?_,n,fun b u hb=> ?_,fun a h=>if_neg h,fun P' q' hm _=>T2 _ hm,sN,fun s a ks h=> ?_⟩
 ·try dsimp only
  rw [if_neg (by rw [w b u hb];simp)]
  exact hb
 ·try dsimp only at hb
  by_cases z:H1 b=none
  ·rw [if_pos z] at hb
   by_cases y: ∃ks:List Key,H2 b=some (.tup (ks.map kV))
   ·rw [if_pos y] at hb;exact hb
   ·rw [if_neg y,w.free z] at hb;cases hb
  ·rw [if_neg z] at hb
   have nb:b≠Pt:=fun e=>by rw [e,nP] at hb;cases hb
   rw [o b nb z]
   exact w b u hb
 ·try dsimp only
  by_cases z:H1 a=none
  ·rw [if_pos z,if_pos ⟨ks,h⟩,h];simp
  ·rw [if_neg z]
   have nb:a≠Pt:=fun e=>by
    obtain ⟨ps,h1,_⟩:=T2 _ hmT
    rw [e] at h
    have h1:H2 Pt=some (.tbl ps):=h1
    rw [h] at h1
    cases h1
   rw [o a nb z] at h
   exact s a ks h
theorem aew{K:PySem.W.Frag}{Pt:Addr}{q:Str}{de db:DE}(hmT:(Pt,q)∈bG.T): ∀σ H Q,low K F0 H0 (Fv de db) σ H Q→agU K bG.T Pt (low K F0 H0 de) (low K F0 H0 db) σ H Q:=fun σ H Q ⟨F,ρ,fps,P,R,qq,k⟩=>
 ⟨F,ρ,fps,_,R,qq,fun x ⟨xs,kf,hx,hne,hrun,hfin⟩ F1 H1 v e1 r1=>by
  subst hx
  have R1:=R.ext e1
  cases r1 with
  |lst s z r=>
   rename_i l vs
   refine ⟨R1.b.1,l,vs,kf,fun H2=> ∃F2,Ext F1 H1 F2 H2,rfl,by rw [r.length];exact hne,fun H2 ⟨F2,e2⟩=>e2.w.seq (e2.f.seq s),fun H2 n o sN T2=>arR hmT R1.x.w (R1.b.2.1 _ hmT) n o T2 sN,fun i w H2 hw ⟨F2,e2⟩=> ?_,fun w H2 hw ⟨F2,e2⟩=> ?_⟩
   ·obtain ⟨y,hy,ry⟩:=r.get hw
    have R2:=R1.ext e2
    refine ⟨F2,ρ++[.sh y],fps++[[]],_,⟨R2.x,R2.s.snoc (.sh (ry.mono e2.f)),⟨by simpa using R2.p.nd,fun a ha=>R2.p.new a (by simpa using ha)⟩,R2.b⟩,hrun i y hy,fun t ht F3 H3 u e3 ru=> ?_⟩
    have ht:t= .int (kf i):=ht
    subst ht
    cases ru
    exact ⟨e3.n,⟨F3,e2.trans e3⟩,rfl⟩
   ·rw [r.length] at hw
    obtain ⟨y,hy,ry⟩:=r.get hw
    exact k y (hfin y hy) F2 H2 w (e1.trans e2) (ry.mono e2.f)⟩
theorem ah5{c P:Addr}{a:Str}{k:Nat}{params:Arguments}{body:Expr}{scope:Scope}{lpos kpos:Pos}{de db:DE}(hg:Gl X "min")(hm:X.mg "min"=none)(he0:LE X F0 H0 e de)
  (TB:LamX.TabB X.base X.mg c P) (hcode:X.env.code= .ref c) (hmT:(P,X.env.qual++"<lambda>")∈bG.T) (hu: ∀p∈bG.T,p.1=P→p.2=X.env.qual++"<lambda>") (hr:Room (k+2) X.A) (L:K_ X.env.scope scope a) (hna:a∉X.N) (hdef:defaultsOf params X.env=([],[]))
  (hbind: ∀(q:Str) (cl:List (Str×Addr)) (pm cv ctv u:Value),bindArgs (PySem.W.kla_fn "<lambda>" q params body scope cl pm cv ctv) ⟨[u],[]⟩=pure [(a,u)])
  (hbody: ∀(A:Around) (s:Shared) (H:Hp) (E:XK) (f c':Addr),Room k (A.deeper (LamX.lamEnv X scope s.heap.objs.size f c'))→LE (BJ X A X.stack s H E scope f c' a) F0 H0 body db)
  (he1:starEach [e] X.env=(false,eval e X.env)::starEach [] X.env:=by rfl) (hv:bootBuiltins "min"=some (.builtin "min"):=by rfl)
  (he:backTo pos (starEach [e] X.env)=(false,eval e X.env)::backTo pos (starEach [] X.env):=by rfl) (hpl:(backTo pos (starEach [e] X.env)).any (·.1)=false:=by rfl):
  LE X F0 H0 (.Call (.Name "min" p) [e] [⟨some "key", .Lambda params body scope lpos,kpos⟩] pos) (Fv de db):=
 peW (ah3 hg hm he0 TB hcode hmT hu hr L hna hdef hbind hbody he1 hv he hpl) (aew hmT)
end
structure aex(K:PySem.W.Frag)(x qual:Str)(st:Stmt)(f:Addr)(fd:FuncData)(cdv:Value):Prop where
 ex: ∃(oc:Value) (od:Option Addr) (kV doc pm:Value) (an:Option Addr) (ct:Value) (osl:Array (Option Value)),
  fd=PySem.W.fnOf x qual (defArgs st) (defBody st) (defScope st) .none kV doc pm an cdv ct∧K.lookup f=some ⟨oc,od, .func fd,osl⟩∧PySem.W.codeIn K cdv qual=true
 kp:PySem.W.keepIn K (.ref f)=true
section
variable{P:Program}{w:World}{K:PySem.W.Frag}{mg:Str→Option Value}{base:Heap}
theorem aex.ok{x qual:Str}{st:Stmt}{f:Addr}{fd:FuncData}{cdv:Value}{N ps:List Str}{k:Nat}{sp:Sp}(F:aex K x qual st f fd cdv)(S:FnScope N ps (defScope st))(len: ∀vs H Q E,sp vs H Q E→vs.length=ps.length)
  (hbody: ∀(A:Around) (outer:List Env) (s:Shared) (H:Hp) (vs:List V) (Q:VK) (E:XK),Room k (A.deeper (PyProof.Rows.envOfC qual (defScope st) s.heap.objs.size f cdv))→sp vs H Q E→
   ∃t,PSs (cxOf CX0 P w K mg base N qual (defScope st) f cdv A outer s H E).nox (defBody st) t∧t { nx:=fun _ H'=>Q .non H',rt:=Q } (start N vs) H):FnOk P w K mg base CX0 (k+1) f fd ps sp:=by
 obtain ⟨oc,od,kV,doc,pm,an,ct,osl,rfl,lk,hcd⟩:=F.ex
 refine fn_of lk hcd S len fun A outer s H vs Q E hr hsp=> ?_
 obtain ⟨t,h,q⟩:=hbody A outer s H vs Q E hr hsp
 exact ⟨t,h.nox,q⟩
theorem aex.binds{x qual:Str}{st:Stmt}{f:Addr}{fd:FuncData}{cdv:Value}{ps:List Str}(F:aex K x qual st f fd cdv)
  (h: ∀(kV doc pm:Value) (an:Option Addr) (cdv ct:Value) (us:List Value),us.length=ps.length→bindArgs (PySem.W.fnOf x qual (defArgs st) (defBody st) (defScope st) .none kV doc pm an cdv ct) ⟨us,[]⟩=pure (ps.zip us)):Binds K fd ps []:=by
 obtain ⟨oc,od,kV,doc,pm,an,ct,osl,rfl,lk,hcd⟩:=F.ex
 exact .all (h kV doc pm an cdv ct)
theorem arS{x qual:Str}{st:Stmt}{f:Addr}{oc:Value}{od an:Option Addr}{osl:Array (Option Value)}{kV doc pm cdv ct:Value}(l:K.lookup f=some ⟨oc,od, .func (PySem.W.fnOf x qual (defArgs st) (defBody st) (defScope st) .none kV doc pm an cdv ct),osl⟩)
  (c:PySem.W.codeIn K cdv qual=true) (k:PySem.W.keepIn K (.ref f)=true):aex K x qual st f (PySem.W.fnOf x qual (defArgs st) (defBody st) (defScope st) .none kV doc pm an cdv ct) cdv:=⟨⟨oc,od,kV,doc,pm,an,ct,osl,rfl,l,c⟩,k⟩
end
end DL
end
section
namespace DL
open PySem L2
variable[bG]
section
variable{P:D→Prop}{PT:Tr→Prop}{PM:Tr→Rh→Prop}{PB:Bool→Prop}{PG:Option V→Tr→Prop}{PP:Nat→List Stp→Tr→Prop}{PR:Rh→Prop}{PA:ArK}{PI:List Tr→Rh→Prop}{PL:List D→Prop}{i j k:Nat}{ρ:Rh}{E:DEn}{dp:DP}{da db:DE}{dt:DTr}{dm:DM}{C:Addr}{m:Str}{gs:List (Str×Tr)}{ts us:List Tr}{t u:Tr}{o:Option V}
 {as:List DAr} {S:iY} {xs:List Ar} {os:List (Option V)} {its:List DIt} {is:List Nat} {x y:D} {ys:List D} {p:List Stp} {s:Sl} {ks:List (KD×D)} {kt:List (KD×Tr)} {kk:KD} {n:String} {b:Bool} {vs:List Nat} {di:DI} {dg:DG} {tt:DT}
theorem arU:ayt S as ρ PT=dAr as ρ (JS S PT):=id rfl
theorem amV:JS S PT xs os=apG S xs (aep PT):=id rfl
theorem amW:aep PT t us=(us=[]∧PT t):=id rfl
theorem arV:aer C m i as S ρ PT=Br i ρ (aaB C m as S ρ PT):=id rfl
theorem amX:aaB C m as S ρ PT o (.obj C gs)=(fj m gs=none∧dAr as ρ (arB (.obj C gs) (JS S PT))):=by
 unfold aaB
 apply propext
 constructor
 ·rintro ⟨⟨gs',h,h2⟩,h3⟩
  cases h
  exact ⟨h2,h3⟩
 ·rintro ⟨h2,h3⟩
  exact ⟨⟨gs,rfl,h2⟩,h3⟩
theorem amY:arQ C m i as S ρ PM=Br i ρ (Qa C m as S ρ PM):=id rfl
theorem ah6:Qa C m as S ρ PM o (.obj C gs)=(fj m gs=none∧dAr as ρ (arB (.obj C gs) (Bu S (fP as) ρ PM))):=by
 unfold Qa
 apply propext
 constructor
 ·rintro ⟨⟨gs',h,h2⟩,h3⟩
  cases h
  exact ⟨h2,h3⟩
 ·rintro ⟨h2,h3⟩
  exact ⟨⟨gs,rfl,h2⟩,h3⟩
theorem aCQ:aEM dt ρ P=dt ρ (ayu P):=id rfl
theorem ayD:ayu P (.sh x)=P x:=id rfl
theorem ayE:xT [] ρ PI=PI [] ρ:=by simp only [xT]
theorem ayF:xT (.e dt::its) ρ PI=dt ρ (avd its PI ρ):=by simp only [xT];rfl
theorem arW:avd its PI ρ t=xT its ρ (aes PI t):=id rfl
theorem arX:aes PI t ts ρ=PI (t::ts) ρ:=id rfl
theorem ayG:xT (.m dp::its) ρ PI=dp ρ (ave its PI ρ):=by simp only [xT];rfl
theorem arY:ave its PI ρ i p u=kJ i p .hole ρ (amP its PI u):=id rfl
theorem arZ:amP its PI u ρ=xT its ρ (aes PI u):=id rfl
theorem ayH:aCN its ρ PM=xT its ρ (amR PM):=id rfl
theorem ar0:amR PM ts ρ=(ts.length≤sizeLine∧amQ ts=true∧PM (.tup ts) ρ):=id rfl
theorem amZ:La [] ts ρ=ρ:=by simp only [La]
theorem ar3:La (i::is) (t::ts) ρ=La is ts (aaC i t ρ):=id rfl
theorem ar4:aaC i (.sh x) ρ=ρ.set i (.sh x):=id rfl
theorem ar5:aaC i (.lst ts) ρ=ρ.set i (.gn none (.lst ts)):=id rfl
theorem ar6:aaC i (.tup ts) ρ=ρ.set i (.gn none (.tup ts)):=id rfl
theorem ar7:aaC i (.obj C gs) ρ=ρ.set i (.gn none (.obj C gs)):=id rfl
theorem ar8:aaC i (.dct kt) ρ=ρ.set i (.gn none (.dct kt)):=id rfl
theorem aCR:aEN is dt E ρ=dt ρ (ayw is E ρ):=id rfl
theorem ayI:ayw is E ρ (.tup ts)=(ts.length=is.length∧E.nx (La is ts ρ)):=id rfl
theorem ar9:ayd dp da ρ PM=dp ρ (agT da PM ρ):=id rfl
theorem ar_:agT da PM ρ i p (.dct kt)=amK da PM ρ i p (Tr.dct kt).flat:=by
 unfold agT
 exact propext ⟨fun h=>h.2,fun h=>⟨⟨_,rfl⟩,h⟩⟩
theorem ase:amK da PM ρ i p (some (.dct ks))=da ρ (aem i p ks PM ρ):=id rfl
theorem am0:aem i p ks PM ρ y=ael i p ks PM ρ (wX y):=id rfl
theorem am1:ael i p ks PM ρ (some kk)=amJ i p ks PM ρ kk (eQ kk ks):=id rfl
theorem asf:amJ i p ks PM ρ kk (some x)=kJ i p (.dct ((amD kk ks).map fun q=>(q.1, .sh q.2))) ρ (PM (.sh x)):=id rfl
theorem ash:amS 0 (.bg t::ρ)=True:=id rfl
theorem asi:amS (i+1) (s::ρ)=amS i ρ:=id rfl
theorem aCS:aEO dp ρ PL=dp ρ (ayy ρ PL):=id rfl
theorem ayJ:ayy ρ PL i p u=(amS i ρ∧amT PL u.flat):=id rfl
theorem aCT:aEP dp ρ PL=dp ρ (ayx PL):=id rfl
theorem ayK:ayx PL i p u=amT PL u.flat:=id rfl
theorem ayL:amT PL (some x)=dJ (kh x) PL:=id rfl
theorem asj:ayz dp E ρ=dp ρ (aet E ρ):=id rfl
theorem am2:aet E ρ i p (.lst ts)=kJ i p (.lst []) ρ E.nx:=id rfl
theorem asl:ayA dp ρ P=dp ρ (aaD P):=id rfl
theorem am3:aaD P i p (.tup ts)=P (.int (ts.length:Nat)):=id rfl
theorem am4:aaD P i p (.lst ts)=P (.int (ts.length:Nat)):=id rfl
theorem asm:ayB n dp ρ P=dp ρ (aev n P):=id rfl
theorem am5:aev n P i p (.tup ts)=aeu P (kitB "tuple" n):=id rfl
theorem am6:aeu P (some b)=P (.bl b):=id rfl
theorem am7:Fv da db ρ P=da ρ (aCP db ρ P):=id rfl
theorem ayM{kf:Nat→Int}{z:Int}:ayC i kf (.int z)=(z=kf i):=by
 unfold ayC
 exact propext ⟨fun h=>by cases h;rfl,fun h=>by rw [h]⟩
def aCU(vs:List Nat)(dg:DG)(tt:DT)(dt:DTr)(ρ:Rh)(PT:Tr→Prop)(xs:List D):Prop:=xs.length≤sizeLine∧amU vs dg tt dt ρ xs fun ys=>PT (.lst ys)
theorem aCV:aEQ vs di dg tt dt ρ PT=di ρ (aCU vs dg tt dt ρ PT):=id rfl
theorem ayN:aCU vs dg tt dt ρ PT ys=(ys.length≤sizeLine∧amU vs dg tt dt ρ ys fun ys=>PT (.lst ys)):=id rfl
end
def kdD:KD→D
 | .inl i=> .int i
 | .inr x=> .str x
section
variable{X:Cx}{F0 H0:Hp}{e a b c o tg:Expr}{pos p:Pos}
def aey(P:D→Prop)(i:Nat)(p:List Stp)(u:Tr):Prop:=match u with| .dct ks=>P (.int (ks.length:Nat))|_=>False
def ayO(d:DP):DE:=fun ρ P=>d ρ (aey P)
def aez(P:D→Prop)(i:Nat)(p:List Stp)(u:Tr):Prop:=match u with| .dct ks=>ks.length≤sizeLine∧P (.lst (ks.map fun q=>kdD q.1))|_=>False
def ayP(d:DP):DE:=fun ρ P=>d ρ (aez P)
variable{P:D→Prop}{dp:DP}{ρ:Rh}{i:Nat}{pp:List Stp}{ks:List (KD×Tr)}
theorem asn:ayO dp ρ P=dp ρ (aey P):=id rfl
theorem am8:aey P i pp (.dct ks)=P (.int (ks.length:Nat)):=id rfl
theorem aso:ayP dp ρ P=dp ρ (aez P):=id rfl
theorem am9:aez P i pp (.dct ks)=(ks.length≤sizeLine∧P (.lst (ks.map fun q=>kdD q.1))):=id rfl
end
structure agV(base:Heap)(mg:Str→Option Value)(cdv:Value)(q:Str):Prop where
 ex: ∃c P,LamX.TabB base mg c P∧cdv= .ref c∧(P,q)∈bG.T∧ ∀p∈bG.T,p.1=P→p.2=q
section
variable{X:Cx}{F0 H0:Hp}{e:Expr}{pos p:Pos}
theorem aeA{a q:Str}{k:Nat}{cdv:Value}{params:Arguments}{body:Expr}{scope:Scope}{lpos kpos:Pos}{de db:DE}(LO:agV X.base X.mg cdv q)(hg:Gl X "min")(hm:X.mg "min"=none)(he0:LE X F0 H0 e de)
  (hr:Room (k+2) X.A) (L:K_ X.env.scope scope a) (hna:a∉X.N) (hdef:defaultsOf params X.env=([],[]))
  (hbind: ∀(q:Str) (cl:List (Str×Addr)) (pm cv ctv u:Value),bindArgs (PySem.W.kla_fn "<lambda>" q params body scope cl pm cv ctv) ⟨[u],[]⟩=pure [(a,u)])
  (hbody: ∀(A:Around) (s:Shared) (H:Hp) (E:XK) (f c':Addr),Room k (A.deeper (LamX.lamEnv X scope s.heap.objs.size f c'))→LE (BJ X A X.stack s H E scope f c' a) F0 H0 body db)
  (hcd:X.env.code=cdv:=by rfl) (hq:X.env.qual++"<lambda>"=q:=by rfl)
  (he1:starEach [e] X.env=(false,eval e X.env)::starEach [] X.env:=by rfl) (hv:bootBuiltins "min"=some (.builtin "min"):=by rfl)
  (he:backTo pos (starEach [e] X.env)=(false,eval e X.env)::backTo pos (starEach [] X.env):=by rfl) (hpl:(backTo pos (starEach [e] X.env)).any (·.1)=false:=by rfl):
  LE X F0 H0 (.Call (.Name "min" p) [e] [⟨some "key", .Lambda params body scope lpos,kpos⟩] pos) (Fv de db):=by
 obtain ⟨c,P,TB,hc,hT,hu⟩:=LO.ex
 rw [←hq] at hT hu
 exact ah5 hg hm he0 TB (hcd.trans hc) hT hu hr L hna hdef hbind hbody he1 hv he hpl
end
end DL
end
section
namespace DL
open PySem L2 PySem.Spec PyProof.Rows
theorem am_[L:bG]{K:PySem.W.Frag}{H:Hp}{a:Addr}{ns:List Int}(hT: ∀p∈L.T,H p.1=some (.tbl #[]))(nT: ∀p∈L.T,K.lookup p.1=none)(s:SqL K H a (ns.map V.int))(hl:ns.length≤63):bZ K pN [.ref a] H (fun v _=>v= .bl true) (fun _ _ _=>False):=by
 have off: ∀b xs,SqL K H b xs→ ∀p∈L.T,b≠p.1:=fun b xs s p hp e=>by
  subst e
  rcases s with (s|⟨o,s⟩)|⟨o,_,_,h,_⟩
  ·rw [hT p hp] at s;cases s
  ·rw [hT p hp] at s;cases s
  ·rw [nT p hp] at h;cases h
 let F:Hp:=fun b=>if ∃p∈L.T,b=p.1 then none else H b
 have out: ∀b,(∀p∈L.T,b≠p.1)→F b=H b:=fun b h=>if_neg fun ⟨p,hp,e⟩=>h p hp e
 refine ajd _ H _ _ (fun p hp=>LamX.TabS.nil (hT p hp)) ⟨a,ns,rfl,s,hl,fun _=>rfl⟩ F (fun p hp=>if_pos ⟨p,hp,rfl⟩) (fun b u hb=> ?_) (fun b xs s=> ?_) fun b ks h=>by
  have e:=out b fun p hp z=>by rw [z,hT p hp] at h;cases h
  rw [e,h];simp
 ·by_cases z: ∃p∈L.T,b=p.1
  ·have:F b=none:=if_pos z
   rw [this] at hb
   cases hb
  ·have:F b=H b:=if_neg z
   rw [←this]
   exact hb
 ·have e:=out b (off b xs s)
  rcases s with (s|⟨o,s⟩)|z
  ·exact .inl (.inl (e.trans s))
  ·exact .inl (.inr ⟨o,e.trans s⟩)
  ·exact .inr z
theorem ana{l:PySem.W.OpenLaw}{q:Program}{loose:List Str}{XP:(Str→Option Value)→Heap→Prop}{YP:World→Heap→Prop}{d:DefRec}{K:Params→PySem.W.Frag}{x:Str}{k:Nat}(hr:Room k callerA)(hn:l.most=some 63)(hdf:d.params.defaults=[])
  (hY: ∀(w:World) (h:Heap),YP w h→(K w.params).In h)
  (F: ∀(w:World) (mg:Str→Option Value) (fa:Addr) (h:Heap),YP w h→(K w.params).In h→h.Ns mainGlobals mg→mg d.name=some (.ref fa)→
   ∃ts:List (Addr×Addr×Str),(∀t∈ts,h.get? t.2.1=some { cls:= .none,data:= .fields #[] })∧(∀t∈ts,(K w.params).lookup t.2.1=none)∧(∀t∈ts,PySem.W.CodeHd h t.1 t.2.1)∧ ∃fd:FuncData,(∀(s:Shared) (u:Value),BindsTo s fd ⟨[u],[]⟩ [(x,u)])∧
    ∀base:Heap,(K w.params).In base→base.Ns mainGlobals mg→(∀t∈ts,LamX.TabB base mg t.1 t.2.1)→FnOk l.prog w (K w.params) mg base CX0 k fa fd [x] (@bZ ⟨ts.map (·.2),some w⟩ (K w.params) pN)):
  PySem.W.WalkO q loose XP YP l.row.toRowW d [] (fun f vs=>PySem.call f vs):=by
 refine LamX.walk_ofTs (n:=63) (k:=k) (x:=x) (CX:=fun _=>CX0) hn (by decide) hdf hr hY (fun w mg fa h Y KX G hm=> ?_) fun _ _ _ _ _ z=>z
 obtain ⟨ts,h1,h2,h3,fd,h4,h5⟩:=F w mg fa h Y KX G hm
 refine ⟨fd,ts.map fun t=>(t.1,t.2.1), @bZ ⟨ts.map (·.2),some w⟩ (K w.params) pN,fun p hp=> ?_,fun p hp=> ?_,fun p hp=> ?_,h4,fun H a ns hl _ hT s=> ?_,fun base KB NB TB=>h5 base KB NB fun t ht=>TB _ (List.mem_map.mpr ⟨t,ht,rfl⟩)⟩
 ·obtain ⟨t,ht,rfl⟩:=List.mem_map.mp hp
  exact h1 t ht
 ·obtain ⟨t,ht,rfl⟩:=List.mem_map.mp hp
  exact h2 t ht
 ·obtain ⟨t,ht,rfl⟩:=List.mem_map.mp hp
  exact h3 t ht
 ·refine @am_ ⟨ts.map (·.2),some w⟩ _ _ _ _ (fun p hp=> ?_) (fun p hp=> ?_) s hl
  ·obtain ⟨t,ht,rfl⟩:=List.mem_map.mp hp
   exact hT _ (List.mem_map.mpr ⟨t,ht,rfl⟩)
  ·obtain ⟨t,ht,rfl⟩:=List.mem_map.mp hp
   exact h2 t ht
end DL
end
section
namespace DL
open PySem L2 PySem.Spec PyProof.Rows
section
variable{X:Cx}{F0 H0:Hp}[bG]
def aCW:Int:=2 ^ 8000
def ayQ:DR2
 | .int i, .int j,P=>(0<j∧j<aCW)∧P (.int (i / j))
 |_,_,_=>False
theorem asp{i j:Int}{P:D→Prop}:ayQ (.int i) (.int j) P=((0<j∧j<aCW)∧P (.int (i / j))):=id rfl
end
end DL
end
section
namespace DL
open PySem L2 PySem.Spec PyProof.Rows
variable[bG]
def acG:List Value→List Tx→Prop
 |[],[]=>True
 |u::us,t::ts=>(∃s k,u= .str s k∧lY s=t)∧acG us ts
 |_,_=>False
def aFD(K:PySem.W.Frag)(mg:Str→Option Value)(x:Str)(l:List Tx):Prop:= ∃(a:Addr) (o:Obj) (its:Array Value) (n:Nat),mg x=some (.ref a)∧K.lookup a=some o∧o.cls= .type "tuple"∧o.data= .seq its n∧acG its.toList l
theorem acG.len: ∀{us:List Value} {l:List Tx},acG us l→us.length=l.length
 |[],[],_=>rfl
 |_::us,_::ts,h=>by simp [acG.len h.2]
 |[],_::_,h=>h.elim
 |_::_,[],h=>h.elim
section
variable{X:Cx}{F0 H0:Hp}
end
end DL
end
section
namespace DL
open PySem L2 PySem.Spec PyProof.Rows
def avf:Int:=1000000000000000000000000000000000000000000000000000000000000
def aCX:List D→(D→Prop)→Prop
 |[.int i],P=>(0≤i∧i<avf)∧P (.str (TL.numL i.toNat))
 |_,_=>False
theorem ayR{i:Int}{P:D→Prop}:(aCX [.int i] P)=((0≤i∧i<avf)∧P (.str (TL.numL i.toNat))):=id rfl
end DL
end
section
namespace DL
open PySem L2 PySem.Spec PyProof.Rows
section
variable{X:Cx}{F0 H0:Hp}{o e:Expr}{apos pos:Pos}[bG]
def anb(t:Tx)(P:D→Prop):D→Prop
 | .str [c]=>c∈t∧ ∀j:Nat,t[j]? =some c→P (.int j)
 |_=>False
def anc(da:DE)(ρ:Rh)(P:D→Prop):D→Prop
 | .str t=>da ρ (anb t P)
 |_=>False
def asq(do_ da:DE):DE:=fun ρ P=>do_ ρ (anc da ρ P)
theorem ane{do_ da:DE}{ρ:Rh}{P:D→Prop}:asq do_ da ρ P=do_ ρ (anc da ρ P):=id rfl
theorem asr{da:DE}{ρ:Rh}{P:D→Prop}{t:Tx}:anc da ρ P (.str t)=da ρ (anb t P):=id rfl
theorem ass{P:D→Prop}{t:Tx}{c:Nat}:anb t P (.str [c])=(c∈t∧ ∀j:Nat,t[j]? =some c→P (.int j)):=id rfl
end
section
variable{X:Cx}
def aFE(K:PySem.W.Frag):R2:=fun x y H Q=> ∃(a b:Addr) (ns ms:List Int),x= .ref a∧y= .ref b∧SqT K H a (ns.map V.int)∧SqT K H b (ms.map V.int)∧
 Q (.bl (Ob.lexAt (fun j=>decide (ns.getD j 0=ms.getD j 0)) (fun j=>decide (ms.getD j 0≤ns.getD j 0)) (decide (ns.length≥ms.length)) 0 (min ns.length ms.length))) H
def aCY:DR2
 | .int i, .int j,P=>P (.bl (decide (j≤i)))
 | .tup [.int a, .int b], .tup [.int c, .int d],P=>P (.bl (if a=c then decide (d≤b) else decide (c≤a)))
 |_,_,_=>False
theorem asu{i j:Int}{P:D→Prop}:aCY (.int i) (.int j) P=P (.bl (decide (j≤i))):=id rfl
theorem asv{a b c d:Int}{P:D→Prop}:aCY (.tup [.int a, .int b]) (.tup [.int c, .int d]) P=P (.bl (if a=c then decide (d≤b) else decide (c≤a))):=id rfl
end
end DL
end
section
namespace DL
open PySem L2
variable[bG]
def anf:Tr→Bool
 | .lst _=>true
 |_=>false
def aFF(ts:List Tr)(n:Nat):List Tr:=(ts.take n).map (fun _=>Tr.lst [])++ts.drop n
def aaE(j:Nat)(E:DEn)(ρ:Rh)(i:Nat)(o:Option V)(t:Tr):Prop:=match t with| .lst ts=>(ts.all anf=true∧ρ[j]? =some .no)∧E.nx (ρ.set i (.gn o (.lst (ts.map fun _=> .lst []))))|_=>False
def asw(i j:Nat):DS:=fun E ρ=>sH i ρ (aaE j E ρ i)
section
variable{X:Cx}{F0 H0:Hp}{e o tg:Expr}{pos p apos pos2:Pos}
def ang(P:Tr→Rh→Prop)(ts:List Tr)(ρ:Rh):Prop:=ts.length≤sizeLine∧P (.lst ts) ρ
def aCZ(its:List DIt):DM:=fun ρ P=>xT its ρ (ang P)
section
variable{E:DEn}{ρ:Rh}{i j:Nat}{o:Option V}{ts:List Tr}{P:Tr→Rh→Prop}{its:List DIt}
theorem anh:(asw i j E ρ)=(sH i ρ (aaE j E ρ i)):=id rfl
theorem ah7:(aaE j E ρ i o (.lst ts))=((ts.all anf=true∧ρ[j]? =some .no)∧E.nx (ρ.set i (.gn o (.lst (ts.map fun _=> .lst []))))):=id rfl
theorem ayS:(aCZ its ρ P)=(xT its ρ (ang P)):=id rfl
theorem asx:(ang P ts ρ)=(ts.length≤sizeLine∧P (.lst ts) ρ):=id rfl
end
end
end DL
end
section
namespace DL
open PySem L2
variable[bG]
def acH:List D→Option (List KD)
 |[]=>some []
 |x::xs=>match wX x,acH xs with
  |some k,some ks=>some (k::ks)
  |_,_=>none
def acI{α:Type}(k:List KD):List (List KD×α)→Option α
 |[]=>none
 |(g,x)::r=>if g=k then some x else acI k r
abbrev DK:=Rh→(List KD→Prop)→Prop
def aFG(K:PySem.W.Frag)(F0 H0:Hp)(d:DK):TE:=fun σ H Q=> ∃F ρ fps P,bJ K F0 H0 F H σ ρ fps∧d ρ P∧ ∀ks,P ks→ ∀F' H' A,Ext F H F' H'→H' A=some (.tup ((ks.map kOf).map kV))→(∀k∈ks,adN k)→Q (.ref A) H'
def ani(P:List KD→Prop)(o:Option (List KD)):Prop:=match o with|some ks=>P ks|none=>False
def anj(P:List KD→Prop)(xs:List D):Prop:=xs.length≤sizeLine∧ani P (acH xs)
def aER(da:DA):DK:=fun ρ P=>da ρ (anj P)
section
variable{X:Cx}{F0 H0:Hp}{e a b c o f:Expr}{es:List Expr}{pos p apos pos' cpos:Pos}
def aES:DTr:=fun _ P=>P (.dtt [])
def tg3(P:D→Prop)(x:Option Tr):Prop:=match x with|some (.sh d)=>P d|_=>False
def tg2(ks:List (List KD×Tr))(P:D→Prop)(k:List KD):Prop:=tg3 P (acI k ks)
def tg1(dk:DK)(ρ:Rh)(P:D→Prop)(i:Nat)(p:List Stp)(u:Tr):Prop:=match u with| .dtt ks=>dk ρ (tg2 ks P)|_=>False
def aC0(dp:DP)(dk:DK):DE:=fun ρ P=>dp ρ (tg1 dk ρ P)
def tp3(i:Nat)(p:List Stp)(ks:List (List KD×Tr))(y:D)(E:DEn)(ρ:Rh)(k:List KD):Prop:=(ks.length<sizeLine∧acI k ks=none)∧kJ i p (.dtt (ks++[(k, .sh y)])) ρ E.nx
def tp2(dk:DK)(y:D)(E:DEn)(ρ:Rh)(i:Nat)(p:List Stp)(u:Tr):Prop:=match u with| .dtt ks=>dk ρ (tp3 i p ks y E ρ)|_=>False
def tp1(dp:DP)(dk:DK)(E:DEn)(ρ:Rh)(y:D):Prop:=dp ρ (tp2 dk y E ρ)
def aC1(dp:DP)(dk:DK)(dv:DE):DS:=fun E ρ=>dv ρ (tp1 dp dk E ρ)
end
section
variable{E:DEn}{ρ:Rh}{i:Nat}{p:List Stp}{P:D→Prop}{PT:Tr→Prop}{PK:List KD→Prop}{dp:DP}{dk:DK}{da:DA}{dv:DE}{ks:List (List KD×Tr)}{k:List KD}{d y:D}{xs:List D}
theorem aC2:(aER da ρ PK)=(da ρ (anj PK)):=id rfl
theorem ayT:(anj PK xs)=(xs.length≤sizeLine∧ani PK (acH xs)):=id rfl
theorem ayU:(ani PK (some k))=(PK k):=id rfl
theorem aC3:(aES ρ PT)=(PT (.dtt [])):=id rfl
theorem ayV:(aC0 dp dk ρ P)=(dp ρ (tg1 dk ρ P)):=id rfl
theorem aC4:(tg1 dk ρ P i p (.dtt ks))=(dk ρ (tg2 ks P)):=id rfl
theorem aC5:(tg2 ks P k)=(tg3 P (acI k ks)):=id rfl
theorem aC6:(tg3 P (some (.sh d)))=(P d):=id rfl
theorem ayW:(aC1 dp dk dv E ρ)=(dv ρ (tp1 dp dk E ρ)):=id rfl
theorem aC7:(tp1 dp dk E ρ y)=(dp ρ (tp2 dk y E ρ)):=id rfl
theorem aC8:(tp2 dk y E ρ i p (.dtt ks))=(dk ρ (tp3 i p ks y E ρ)):=id rfl
theorem aC9:(tp3 i p ks y E ρ k)=((ks.length<sizeLine∧acI k ks=none)∧kJ i p (.dtt (ks++[(k, .sh y)])) ρ E.nx):=id rfl
theorem ank:acH []=some []:=id rfl
theorem asy{z:Int}{t:Tx}:acH [.int z, .str t]=some [.inl z, .inr t]:=id rfl
end
end DL
end
section
namespace L2
open PySem PySem.Spec PyProof.Rows
section
variable{X:Cx}{pins:List (Addr×Obj)}{σ:St}{H:Hp}{s:Shared}{d:Addr}{o:Obj}
theorem acA{kvs:List (List Key×V)}(I:Inv X pins σ H s)(h:H d=some (.frz o (.dT kvs))):
  (d==sysModules)=false∧s.heap.get? d=some o∧o.ExactDict∧ ∃(es:Array DictEntry) (ep:Nat),o.data= .dict es ep∧es.size=kvs.length∧
   ∀(i:Nat) (k:List Key) (v:V),kvs[i]? =some (k,v)→ ∃(en:DictEntry) (q:Addr),es[i]? =some en∧en.key= .ref q∧H q=some (.tup (k.map kV))∧RelV v en.val:=by
 obtain ⟨hd,z,hs,xs,pr,o',es,ep,ho,hx,hdt,he,_⟩:=I.hok d _ h
 rw [hd] at ho
 cases ho
 refine ⟨hs,hd,hx,es,ep,hdt, ?_,fun i k v e=> ?_⟩
 ·have l1:es.size=xs.length:=size_of_entries he
  have l2:kvs.length=xs.length:=Paired.length pr
  omega
 ·obtain ⟨b,hb,e1,e2,e3⟩:=paired_get pr e
  have q:=entry_at he i
  rw [hb] at q
  exact ⟨_,b.2.1,q,rfl,e2,e3⟩
end
def aET(d:Addr)(o:Obj)(kvs:List (List Key×V))(qs:List Addr):It:=
 ⟨fun i H=>H d=some (.frz o (.dT kvs))∧i<kvs.length,fun i H x H'=> ∃T q k v,kvs[i]? =some (k,v)∧qs[i]? =some q∧x= .ref T∧H T=none∧H'=upd H T (.tup [.ref q,v]),fun i H=>H d=some (.frz o (.dT kvs))∧kvs.length≤i⟩
section
variable{P:Program}{w:World}{K:PySem.W.Frag}{d:Addr}{o:Obj}{es:Array DictEntry}{ep:Nat}
end
def aDL(td:TE):TI:=fun σ H R=>td σ H fun x H1=> ∃d o kvs,x= .ref d∧H1 d=some (.frz o (.dT kvs))∧ ∀qs:List Addr,(∀(i:Nat) (k:List Key) (v:V),kvs[i]? =some (k,v)→ ∃q,qs[i]? =some q∧H1 q=some (.tup (k.map kV)))→R (aET d o kvs qs) H1
section
variable{X:Cx}{e:Expr}{td:TE}{apos cpos:Pos}
end
end L2
namespace DL
open PySem L2
variable[bG]
def Uv:Sl→Bool
 | .no=>true
 | .sh _=>true
 |_=>false
theorem anl{K:PySem.W.Frag}{F0 H0 F H F0' H0' F' H':Hp}(e:Same F F'): ∀{σ:L2.St} {ρ:Rh} {fps:List (List Addr)},bB K F0 H0 F H σ ρ fps→ρ.all Uv=true→bB K F0' H0' F' H' σ ρ fps∧fps.flatten=[]
 |_,_,_, .nil,_=>⟨.nil,rfl⟩
 |_,s::_,_, .cons h r,a=>by
  rw [List.all_cons,Bool.and_eq_true] at a
  obtain ⟨i1,i2⟩:=anl (F0':=F0') (H0':=H0') (H':=H') e r a.2
  cases h with
  |no=>exact ⟨.cons .no i1,by simpa using i2⟩
  |sh h=>exact ⟨.cons (.sh (h.mono e)) i1,by simpa using i2⟩
  |_=>cases a.1
theorem anm{F H F' H':Hp}{d:Addr}{od:Obj}{u:HO}(e:Ext F (upd H d (.frz od u)) F' H')(hd:H d=some u)(nF:F d=none)(n1: ∀ps,u≠ .tbl ps:=by intro _ z;cases z)(n2: ∀c q,u≠LamX.CodeO c q:=by intro _ _ z;unfold LamX.CodeO at z;cases z)(nk: ∀ks:List Key,u≠ .tup (ks.map kV):=by intro _ z;cases z):H' d=some (.frz od u)∧Ext F H F' (upd H' d u):=by
 have h1:H' d=some (.frz od u):=e.h _ _ upd_same
 have h2:F' d=none:=by rw [e.o d (by rw [upd_same];simp)];exact nF
 refine ⟨h1,e.f,fun b w hb nb=> ?_,fun b w hb=> ?_,fun a n=> ?_,fun P q m t=> ?_,fun a n=> ?_,fun s=>(e.m (s.upd (by intro _ z;cases z))).upd nk⟩
 ·by_cases z:b=d
  ·rw [z] at hb ⊢
   rw [upd_same, ←hb,hd]
  ·rw [upd_ne z];exact e.n _ _ (by rw [upd_ne z];exact hb) nb
 ·rw [upd_ne (ne_of_none hb h2)];exact e.w _ _ hb
 ·by_cases z:a=d
  ·subst z;exact h2.trans nF.symm
  ·exact e.o a (by rw [upd_ne z];exact n)
 ·exact xj (e.t P q m (xj t hd n1 n2)) h1 (fun _ z=>by cases z) (fun _ _ z=>by unfold LamX.CodeO at z;cases z)
 ·by_cases z:a=d
  ·subst z;rw [upd_same];simp
  ·rw [upd_ne z]
   exact e.s a (by rw [upd_ne z];exact n)
theorem asz{i:Nat}{a b:Sl}(hb:Uv b=true): ∀{ρ:Rh},(ρ.set i a).all Uv=true→(ρ.set i b).all Uv=true:=by
 induction i with
 |zero=>
  intro ρ h
  cases ρ with
  |nil=>exact h
  |cons s r=>
   rw [List.set_cons_zero,List.all_cons,Bool.and_eq_true] at h ⊢
   exact ⟨hb,h.2⟩
 |succ i ih=>
  intro ρ h
  cases ρ with
  |nil=>exact h
  |cons s r=>
   rw [List.set_cons_succ,List.all_cons,Bool.and_eq_true] at h ⊢
   exact ⟨h.1,ih h.2⟩
def aeB(l:List (List KD×Int)):List D:=l.map fun p=> .tup [.tup (p.1.map kdD), .int p.2]
structure FaT(K:PySem.W.Frag)(H0:Hp)(f:Str)(x d C dx:Addr)(fs:List (Str×V))(od:Obj)(vs:List (List Key×V))(l:List (List KD×Int)):Prop where
 hx:H0 x=some (.ins C dx fs)
 hc:Cls K C
 hn:NoAttr K C f
 hf:fs.lookup f=some (.ref d)
 hd:H0 d=some (.frz od (.dT vs))
 hk:vs.map (·.1)=l.map fun p=>p.1.map kOf
 ho: ∀p∈l,(∀k∈p.1,adN k)∧p.1.length≤sizeLine
 hv:vs.map (·.2)=l.map fun p=>V.int p.2
theorem FaT.get{K:PySem.W.Frag}{H0:Hp}{f:Str}{x d C dx:Addr}{fs:List (Str×V)}{od:Obj}{vs:List (List Key×V)}{l:List (List KD×Int)}(h:FaT K H0 f x d C dx fs od vs l){i:Nat}{k:List Key}{w:V}(e:vs[i]? =some (k,w)): ∃p,l[i]? =some p∧k=p.1.map kOf∧w= .int p.2:=by
 have h1:=congrArg (fun z=>z[i]?) h.hk
 have h2:=congrArg (fun z=>z[i]?) h.hv
 simp only [List.getElem?_map,e,Option.map_some] at h1 h2
 cases hp:l[i]? with
 |none=>rw [hp] at h1;cases h1
 |some p=>
  rw [hp] at h1 h2
  exact ⟨p,rfl,Option.some.inj h1,Option.some.inj h2⟩
section
variable{X:Cx}{F0 H0:Hp}{o:Expr}{pos p1 apos cpos:Pos}
def diT(x:Addr)(l:List (List KD×Int))(i:Nat):DI:=fun ρ P=>ρ[i]? =some (.sh (.fn x))∧P (aeB l)
def aFH(K:PySem.W.Frag)(i:Nat)(f:Str)(is:List Nat)(dg:DG)(dt:DT)(de:DE):TE:=fun σ H Q=> ∃F0 H0 x d C dx fs od vs l,FaT K H0 f x d C dx fs od vs l∧low K F0 H0 (dLc is (diT x l i) dg dt de) σ H Q
def aC_(i:Nat)(vsl:List Nat)(dg:DG)(dt:DT)(de:DE)(ρ:Rh)(P:D→Prop)(l:List (List KD×Int)):Prop:=
 ((∀p∈l,p.1.length≤sizeLine)∧(ρ.set i .no).all Uv=true)∧(aeB l).length≤sizeLine∧ ∀x:Addr,lcD vsl dg dt de (ρ.set i (.sh (.fn x))) (aeB l) fun ys=>P (.lst ys)
def aDa(i:Nat)(vsl:List Nat)(dg:DG)(dt:DT)(de:DE)(ρ:Rh)(P:D→Prop)(t:Option Tr):Prop:=match t with|some (.dtt ks)=> ∃l,ks=l.map (fun p=>(p.1,Tr.sh (.int p.2)))∧aC_ i vsl dg dt de ρ P l|_=>False
def aFg(T:Addr→Prop)(i:Nat)(f:Str)(vsl:List Nat)(dg:DG)(dt:DT)(de:DE):DE:=fun ρ P=>match ρ[i]? with|some (.bg (.obj C gs))=>T C∧aDa i vsl dg dt de ρ P (gs.lookup f)|_=>False
end
end DL
end
section
namespace L2
open PySem PySem.Spec PyProof.Rows
section
variable{X:Cx}{a b c:Expr}{ta:TA}{p p2 p3 pos:Pos}
def aEU(i c:Int)(n:Nat):List V:=(List.range n).map fun k=>V.int (i+(k:Nat)*c)
def aDM(ta:TA):TE:=fun σ H Q=>ta σ H fun vs H1=> ∃(i j c:Int) (n:Nat),vs=[.int i, .int j, .int c]∧RgC i j c n∧n≤2 ^ 24∧ ∀q,H1 q=none→Q (.ref q) (upd H1 q (.lst (aEU i c n)))
end
end L2
namespace DL
open PySem L2
variable[bG]
section
variable{X:Cx}{F0 H0:Hp}{a b c:Expr}{p p2 p3 pos:Pos}
def aDb(j:Int):List D:=(List.range ((j+1) / 2).toNat).map fun k=>D.int (0+(k:Nat)*2)
def aEV(P:D→Prop):List D→Prop:=fun xs=>match xs with|[.int 0, .int j, .int 2]=>(0≤j∧j≤1000000)∧P (.lst (aDb j))|_=>False
def aDc(da:DA):DE:=fun ρ P=>da ρ (aEV P)
def aFI(P:D→Prop)(j:Int):Prop:=(0≤j∧j≤1000000)∧P (.lst (aDb j))
variable{da:DA}{ρ:Rh}{P:D→Prop}{j:Int}
end
section
open PySem.Spec PyProof.Rows
variable{X:Cx}
def aFJ(K:PySem.W.Frag):R2:=fun x y H Q=> ∃(a b:Addr) (ns ms:List Int),x= .ref a∧y= .ref b∧SqT K H a (ns.map V.int)∧SqT K H b (ms.map V.int)∧
 Q (.bl (Ob.lexAt (fun j=>decide (ns.getD j 0=ms.getD j 0)) (fun j=>decide (ms.getD j 0<ns.getD j 0)) (decide (ns.length>ms.length)) 0 (min ns.length ms.length))) H
def aFK:DR2
 | .int i, .int j,P=>P (.bl (decide (j<i)))
 | .tup [.int a, .int b], .tup [.int c, .int d],P=>P (.bl (if a=c then decide (d<b) else decide (c<a)))
 |_,_,_=>False
end
end DL
end
section
namespace L2
open PySem PySem.Spec PyProof.Rows
mutual
inductive aaF(K:PySem.W.Frag)(H:Hp):NestedKey→V→Prop
 |num (i:Int):aaF K H (.num i) (.int i)
 |text (x:Str):aaF K H (.text x) (.str x)
 |tup {a:Addr} {vs:List V} {ks:List NestedKey}:SqT K H a vs→Uw K H ks vs→aaF K H (.tup ks) (.ref a)
inductive Uw(K:PySem.W.Frag)(H:Hp):List NestedKey→List V→Prop
 |nil:Uw K H [] []
 |cons {k:NestedKey} {v:V} {ks:List NestedKey} {vs:List V}:aaF K H k v→Uw K H ks vs→Uw K H (k::ks) (v::vs)
end
mutual
theorem vW{X:Cx}{pins:List (Addr×Obj)}{σ:St}{H:Hp}{s:Shared}(I:Inv X pins σ H s): ∀{k:NestedKey} {v:V} {u:Value},aaF X.K H k v→RelV v u→NestedIs s.heap k u
 |_,_,_, .num i,r=>by obtain ⟨t,rfl⟩:=r;exact .int i t
 |_,_,_, .text x,r=>by obtain ⟨t,rfl⟩:=r;exact .text x t
 |_,_,_, .tup h q,r=>by
  cases r
  obtain ⟨its,r1,⟨o,e1,e2,n,e3⟩,_⟩:=I.tuple h
  exact .tup e1 e2 e3 (by simpa using acJ I q r1)
theorem acJ{X:Cx}{pins:List (Addr×Obj)}{σ:St}{H:Hp}{s:Shared}(I:Inv X pins σ H s): ∀{k:List NestedKey} {v:List V} {u:List Value},Uw X.K H k v→Vals v u→NestedAll s.heap k u
 |_,_,_, .nil,r=>by cases r;exact .nil
 |_,_,_, .cons h q,r=>by
  cases r with
  |cons r1 r2=>exact .cons (vW I h r1) (acJ I q r2)
end
abbrev NEs:=List (NestedKey×Addr×V)
def xU(es:NEs)(k:NestedKey):Option V:=(es.find? fun e=>decide (e.1=k)).map (·.2.2)
def xV(es:NEs)(k:NestedKey)(b:Addr)(v:V):NEs:=if (xU es k).isSome then es.map fun e=>if e.1=k then (e.1,e.2.1,v) else e else es++[(k,b,v)]
theorem YD{p:NestedKey×Addr×V}{r:NEs}{k:NestedKey}(e:p.1=k):xU (p::r) k=some p.2.2:=by simp [xU,List.find?_cons,e]
theorem YF{p:NestedKey×Addr×V}{r:NEs}{k:NestedKey}(e: ¬p.1=k):xU (p::r) k=xU r k:=by simp [xU,List.find?_cons,e]
theorem NKT.val{es:NEs}{xs:List (NestedKey×Addr×Value)}(r:DL.NKT es xs)(k:NestedKey):RelO (xU es k) ((atKey xs k).map (·.2)):=by
 induction r with
 |nil=>exact True.intro
 | @cons p q ps qs h t ih=>
  obtain ⟨h1,_,h2⟩:=h
  by_cases e:p.1=k
  ·have e':q.1=k:=h1.symm.trans e
   have b:atKey (q::qs) k=some q.2:=by simp [atKey,List.find?_cons,e']
   rw [YD e,b];exact h2
  ·have e': ¬q.1=k:=fun z=>e (h1.trans z)
   have b:atKey (q::qs) k=atKey qs k:=by simp [atKey,List.find?_cons,e']
   rw [YF e,b];exact ih
theorem NKT.repl{es:NEs}{xs:List (NestedKey×Addr×Value)}(r:DL.NKT es xs)(k:NestedKey){y:V}{u:Value}(ry:RelV y u):
  DL.NKT (es.map fun e=>if e.1=k then (e.1,e.2.1,y) else e) (xs.map (putAt k u)):=by
 induction r with
 |nil=>exact .nil
 | @cons p q ps qs h t ih=>
  rw [List.map_cons,List.map_cons]
  refine .cons ?_ ih
  obtain ⟨h1,h2,h3⟩:=h
  unfold putAt
  by_cases e:p.1=k
  ·rw [if_pos e,if_pos (h1.symm.trans e)];exact ⟨h1,h2,ry⟩
  ·rw [if_neg e,if_neg (fun z=>e (h1.trans z))];exact ⟨h1,h2,h3⟩
theorem NKT.put{es:NEs}{xs:List (NestedKey×Addr×Value)}(r:DL.NKT es xs)(k:NestedKey){b:Addr}{y:V}{u:Value}(ry:RelV y u):
  DL.NKT (xV es k b y) (storedH xs k b u):=by
 have e:(xU es k).isSome=(atKey xs k).isSome:=by
  rw [(NKT.val r k).isSome_eq,Option.isSome_map]
 unfold xV storedH
 rw [e]
 by_cases q:(atKey xs k).isSome=true
 ·rw [if_pos q,if_pos q];exact NKT.repl r k ry
 ·rw [if_neg q,if_neg q];exact Paired.snoc r ⟨rfl,rfl,ry⟩
def Ux(K:PySem.W.Frag)(H:Hp)(es:NEs):Prop:= ∀e∈es,aaF K H e.1 (.ref e.2.1)∧e.1.depth≤8
theorem NKT.mem{es:NEs}{xs:List (NestedKey×Addr×Value)}(r:DL.NKT es xs): ∀x∈xs, ∃e∈es,e.1=x.1∧e.2.1=x.2.1:=by
 induction r with
 |nil=>intro x hx;cases hx
 | @cons p q ps qs h t ih=>
  intro x hx
  rcases List.mem_cons.mp hx with z|z
  ·subst z;exact ⟨p,by simp,h.1,h.2.1⟩
  ·obtain ⟨e,h1,h2⟩:=ih x z
   exact ⟨e,List.mem_cons_of_mem _ h1,h2⟩
theorem Uy{X:Cx}{pins:List (Addr×Obj)}{σ:St}{H:Hp}{s:Shared}{a:Addr}{es:NEs}(I:Inv X pins σ H s)(g:H a=some (DL.nkO X.w a es))(kv:Ux X.K H es):
  es.length≤sizeLine∧(a==sysModules)=false∧ ∃xs,DL.NKT es xs∧s.heap.DictOfH (nestedKind X.prog X.w) a xs:=by
 obtain ⟨⟨z,hd,xs,r,o,des,ep,h1,h2,h3,h4,h5⟩,_⟩:=(show ObjOk X.prog X.w H s.heap a (DL.nkO X.w a es) from I.hok a _ g)
 refine ⟨z,hd,xs,r,o,des,ep,h1,h2,h3,h4,fun x hx=> ?_,h5⟩
 obtain ⟨e,he,e1,e2⟩:=NKT.mem r x hx
 rw [←e1, ←e2]
 exact ⟨vW I (kv e he).1 rfl,(kv e he).2⟩
def Ou(K:PySem.W.Frag)(w:World)(H:Hp)(a:Addr)(y:V)(r:Option V):Prop:= ∃es k b,H a=some (DL.nkO w a es)∧Ux K H es∧y= .ref b∧aaF K H k (.ref b)∧k.depth≤8∧r=xU es k
def aDd(K:PySem.W.Frag)(w:World)(H:Hp)(a:Addr)(y v:V)(H':Hp):Prop:= ∃es k b,H a=some (DL.nkO w a es)∧Ux K H es∧y= .ref b∧aaF K H k (.ref b)∧k.depth≤8∧es.length<sizeLine∧H'=upd H a (DL.nkO w a (xV es k b v))
theorem ah8(es:NEs)(k:NestedKey)(b:Addr)(v:V):(xV es k b v).length≤es.length+1:=by
 unfold xV
 split
 ·rw [List.length_map];omega
 ·simp
theorem ano{P:Program}{w:World}{H:Hp}{h:Heap}{a:Addr}{es:NEs}{xs:List (NestedKey×Addr×Value)}(z:es.length≤sizeLine)(hd:(a==sysModules)=false)(r:DL.NKT es xs)(m:h.DictOfH (nestedKind P w) a xs):ObjOk P w H h a (DL.nkO w a es):=by
 obtain ⟨o,des,ep,h1,h2,h3,h4,h5,h6⟩:=m
 exact ⟨⟨z,hd,xs,r,o,des,ep,h1,h2,h3,h4,h6⟩,⟨o,h1⟩,fun h1 h2 ⟨z,hd,xs,r,o,des,ep,q1,q⟩ k=>⟨z,hd,xs,r,o,des,ep,k _ q1,q⟩⟩
section
variable{X:Cx}{pins:List (Addr×Obj)}{σ:St}{H:Hp}{s:Shared}{a:Addr}{y v d:V}{u r:Value}{o:Option V}{A:Around}{E:Value→Shared→Prop}
theorem Uz(hu:A.units+9<cLine):(nestedKind X.prog X.w).room A.in1:=by show A.units+1+8<cLine;omega
theorem ah9{Q:Value→Shared→Prop}(hu:A.units+9<cLine)(I:Inv X pins σ H s)(g:Ou X.K X.w H a y (some v))(ry:RelV y u)(h: ∀w' s',Inv X pins σ H s'→RelV v w'→Q w' s'):
  wpAny (model X.prog X.w) A (getItem (.ref a) u) Q E s:=by
 obtain ⟨es,k,b,e,kv,ey,hk,hd8,l⟩:=g
 subst ey
 cases (show u=Value.ref b from ry)
 obtain ⟨z,hd,xs,rel,dd⟩:=Uy I e kv
 obtain ⟨w',hw,rw'⟩:=RelO.some_of (v:=v) (o:=(atKey xs k).map (·.2)) (by rw [l];exact NKT.val rel k)
 obtain ⟨p,hp,hp2⟩:=Option.map_eq_some_iff.mp hw
 refine wpAny_getItem_heap (Uz hu) ⟨vW I hk rfl,hd8⟩ dd hp ?_
 rw [hp2]
 exact h w' _ (I.tok _) rw'
theorem asB{Q:Value→Shared→Prop}(hu:A.units+9<cLine)(I:Inv X pins σ H s)(g:Ou X.K X.w H a y o)(ry:RelV y u)(h: ∀s',Inv X pins σ H s'→Q (.bool (!o.isSome)) s'):
  wpAny (model X.prog X.w) A (compareOp .NotIn u (.ref a)) Q E s:=by
 obtain ⟨es,k,b,e,kv,ey,hk,hd8,l⟩:=g
 subst ey
 cases (show u=Value.ref b from ry)
 obtain ⟨z,hd,xs,rel,dd⟩:=Uy I e kv
 refine wpAny_notIn_heap (Uz hu) ⟨vW I hk rfl,hd8⟩ hd dd ?_
 have q:=(NKT.val rel k).isSome_eq
 rw [Option.isSome_map] at q
 rw [←q, ←l]
 exact h _ (I.tok _)
theorem ah_{H':Hp}{Q:Unit→Shared→Prop}(hu:A.units+9<cLine)(I:Inv X pins σ H s)(g:aDd X.K X.w H a y v H')(ry:RelV y u)(rv:RelV v r)(h: ∀s',Inv X pins σ H' s'→Q () s'):
  wpAny (model X.prog X.w) A (setItem (.ref a) u r) Q E s:=by
 obtain ⟨es,k,b,e,kv,ey,hk,hd8,l,eH⟩:=g
 subst ey eH
 cases (show u=Value.ref b from ry)
 obtain ⟨z,hd,xs,rel,dd⟩:=Uy I e kv
 have hz:xs.length≤sizeLine:=by rw [←Paired.length rel];exact z
 have hl:(xV es k b v).length≤sizeLine:=by have:=ah8 es k b v;omega
 refine wpAny_setItem_heap (hsz:=hz) (Uz hu) ⟨vW I hk rfl,hd8⟩ dd fun h' dd' hs=>h _ ?_
 have dd'':=dd'
 obtain ⟨q,des,ep,hq,_⟩:=dd''
 exact d_write I (by rw [e];exact True.intro) hs ⟨q,hq⟩ (ano hl hd (NKT.put rel k rv) dd')
theorem ayX{Q:Value→Shared→Prop}(hu:A.units+9<cLine)(I:Inv X pins σ H s)(g:Ou X.K X.w H a y o)(ry:RelV y u)(h: ∀w' s',Inv X pins σ H s'→RelV (o.getD .non) w'→Q w' s'):
  wpAny (model X.prog X.w) A (call (.builtin "dict.get") [.ref a,u]) Q E s:=by
 obtain ⟨es,k,b,e,kv,ey,hk,hd8,l⟩:=g
 subst ey
 cases (show u=Value.ref b from ry)
 obtain ⟨z,hd,xs,rel,dd⟩:=Uy I e kv
 refine call_meetsIn PySem.F.slot_dict_get dd.typeIs PySem.F.entry_dict_get (PySem.F.args_dict_get_2 _ _) (meetsH_dict_get (nestedKind X.prog X.w) a b hd) ⟨Uz hu,k,xs,⟨vW I hk rfl,hd8⟩,dd,h _ _ (I.tok _) ?_⟩
 rw [l]
 exact (NKT.val rel k).getD rfl
theorem ayY{Q:Value→Shared→Prop}(hu:A.units+9<cLine)(I:Inv X pins σ H s)(g:Ou X.K X.w H a y o)(ry:RelV y u)(rd:RelV d r)(h: ∀w' s',Inv X pins σ H s'→RelV (o.getD d) w'→Q w' s'):
  wpAny (model X.prog X.w) A (call (.builtin "dict.get") [.ref a,u,r]) Q E s:=by
 obtain ⟨es,k,b,e,kv,ey,hk,hd8,l⟩:=g
 subst ey
 cases (show u=Value.ref b from ry)
 obtain ⟨z,hd,xs,rel,dd⟩:=Uy I e kv
 refine call_meetsIn PySem.F.slot_dict_get dd.typeIs PySem.F.entry_dict_get (PySem.F.args_dict_get_3 _ _ _) (meetsH_dict_get_default (nestedKind X.prog X.w) a b hd r) ⟨Uz hu,k,xs,⟨vW I hk rfl,hd8⟩,dd,h _ _ (I.tok _) ?_⟩
 rw [l]
 exact (NKT.val rel k).getD rd
def IsN(K:PySem.W.Frag)(w:World)(H:Hp)(a:Addr):Prop:= ∃es,H a=some (DL.nkO w a es)∧Ux K H es
theorem aeC(I:Inv X pins σ H s)(d:IsN X.K X.w H a):s.TypeIs (.ref a) "dict"∧(∀b,Value.ref a= .ref b→ ∃ob,s.heap.get? b=some ob∧ob.dict=none)∧(a==sysModules)=false:=by
 obtain ⟨es,e,kv⟩:=d
 obtain ⟨_,hd,xs,_,dd⟩:=Uy I e kv
 refine ⟨dd.typeIs,fun b q=> ?_,hd⟩
 cases q
 obtain ⟨ob,_,_,h1,h2,_⟩:=dd
 exact ⟨ob,h1,h2.2.1⟩
theorem Ou.isN{K:PySem.W.Frag}{w:World}(g:Ou K w H a y o):IsN K w H a:=by
 obtain ⟨es,k,b,e,kv,_⟩:=g
 exact ⟨es,e,kv⟩
theorem aDe{es:NEs}{Q:Value→Shared→Prop}(I:Inv X pins σ H s)(e:H a=some (DL.nkO X.w a es))(kv:Ux X.K H es)(h: ∀t s',Inv X pins σ H s'→Q (.int es.length t) s'):wpAny (model X.prog X.w) A (call (.builtin "len") [.ref a]) Q E s:=by
 obtain ⟨z,hd,xs,rel,dd⟩:=Uy I e kv
 have ln:=Paired.length rel
 have dk:s.heap.DictKeyed (nestedKind X.prog X.w) a (pairsH xs):=⟨xs,dd,rfl⟩
 have lp:(pairsH xs).length=xs.length:=pairsH_length xs
 refine PyProof.Rows.call_len_slot (n:=(pairsH xs).length) dd.typeIs PySem.F.slot_dict_len (fun Q' hq=>len_keyed hd dk hq) (by omega) (by rw [sizeLine_eq] at z;omega) ?_
 rw [lp, ←ln]
 exact h _ _ (I.tok _)
end
def aDf(K:PySem.W.Frag)(w:World)(td ty:TE):TE:=fun σ H Q=>td σ H fun x H1=>ty σ H1 fun y H2=> ∃a v,x= .ref a∧Ou K w H2 a y (some v)∧Q v H2
def aFL(K:PySem.W.Frag)(w:World)(ty td:TE):TE:=fun σ H Q=>ty σ H fun y H1=>td σ H1 fun x H2=> ∃a o,x= .ref a∧Ou K w H2 a y o∧Q (.bl o.isSome) H2
def asC(K:PySem.W.Frag)(w:World)(ty td:TE):TE:=fun σ H Q=>ty σ H fun y H1=>td σ H1 fun x H2=> ∃a o,x= .ref a∧Ou K w H2 a y o∧Q (.bl (!o.isSome)) H2
def aDg(K:PySem.W.Frag)(w:World)(td ty tv:TE):TS:=fun D σ H=>tv σ H fun v H1=>td σ H1 fun x H2=>ty σ H2 fun y H3=> ∃a H4,x= .ref a∧aDd K w H3 a y v H4∧D.nx σ H4
def ayZ(K:PySem.W.Frag)(w:World)(td ty:TE):TE:=fun σ H Q=>td σ H fun x H1=> ∃a,x= .ref a∧IsN K w H1 a∧ty σ H1 fun y H2=> ∃o,Ou K w H2 a y o∧Q (o.getD .non) H2
def ay0(K:PySem.W.Frag)(w:World)(td ty tx:TE):TE:=fun σ H Q=>td σ H fun x H1=> ∃a,x= .ref a∧IsN K w H1 a∧ty σ H1 fun y H2=>tx σ H2 fun z H3=> ∃o,Ou K w H3 a y o∧Q (o.getD z) H3
def ay1(w:World):TE:=fun _ H Q=> ∀p,H p=none→Q (.ref p) (upd H p (DL.nkO w p []))
section
variable{X:Cx}{o i e f value:Expr}{pos pos' apos cpos:Pos}{td ty tv tx:TE}
theorem asF(hu:X.A.units+9<cLine)(ho:PE X o td)(hi:PE X i ty)(hs:NoSl i):PE X (.Subscript o i pos) (aDf X.K X.w td ty):=by
 refine ⟨fun pins s σ H Q I h=> ?_⟩
 refine subD_of PySem.F.slot_dict_getitem.lookup hs (thn (ho.run pins s σ H _ I h) fun u s1 ⟨x,H1,I1,rx,q1⟩=>thn (hi.run pins s1 σ H1 _ I1 q1) fun iv s2 ⟨y,H2,I2,ry,a,v,ex,g,q2⟩=> ?_)
 subst ex
 obtain rfl:u=Value.ref a:=rx
 exact ⟨(aeC I2 g.isN).1,ah9 hu I2 g ry fun w' s3 I3 rw'=>⟨v,H2,I3,rw',q2⟩⟩
theorem aia(hu:X.A.units+9<cLine)(hi:PE X i ty)(ho:PE X o td):PC X .NotIn i o (asC X.K X.w ty td):=by
 refine ⟨fun pins s σ H Q I h=> ?_⟩
 refine thn (hi.run pins s σ H _ I h) fun iv s1 ⟨y,H1,I1,ry,q1⟩=>thn (ho.run pins s1 σ H1 _ I1 q1) fun u s2 ⟨x,H2,I2,rx,a,ov,ex,g,q2⟩=> ?_
 subst ex
 obtain rfl:u=Value.ref a:=rx
 exact asB hu I2 g ry fun s3 I3=>⟨.bl (!ov.isSome),H2,I3,rfl,q2⟩
theorem asH(hu:X.A.units+9<cLine)(ho:PE X o td)(hi:PE X i ty)(hv:PE X value tv)(hs:swapsWith value (some (.Subscript o i pos')) pos.line X.env=pure false):
  PS X (.Assign [.Subscript o i pos'] value pos) (aDg X.K X.w td ty tv):=by
 refine ⟨fun pins s σ H D I h=> ?_⟩
 refine wpAny_Assign_Subscript (thn (hv.run pins s σ H _ I h) fun r s1 ⟨v,H1,I1,rv,q1⟩=>thn (ho.run pins s1 σ H1 _ I1 q1) fun u s2 ⟨x,H2,I2,rx,q2⟩=>thn (hi.run pins s2 σ H2 _ I2 q2) fun iv s3 ⟨y,H3,I3,ry,a,H4,ex,g,q3⟩=> ?_) hs
 subst ex
 obtain rfl:u=Value.ref a:=rx
 exact ah_ hu I3 g ry rv fun s4 I4=>⟨σ,H4,I4,q3⟩
theorem anp(hu:X.A.units+9<cLine)(ho:PE X o td)(he:PE X e ty)(m:M1 X o "get" apos e cpos):PE X (.Call (.Attribute o "get" apos) [e] [] cpos) (ayZ X.K X.w td ty):=by
 refine ⟨fun pins s σ H Q I h=> ?_⟩
 refine wpAny_Call_method m.base m.few m.line PySem.F.plainAttrs_dict PySem.F.slot_dict_get PySem.F.type_dict_get (thn (ho.run pins s σ H _ I h) fun u s1 ⟨x,H1,I1,rx,a,ex,d,q1⟩=> ?_)
 subst ex
 obtain rfl:u=Value.ref a:=rx
 obtain ⟨t1,t2,_⟩:=aeC I1 d
 refine ⟨t1,t2, ?_⟩
 rw [m.trees]
 refine Calls.callWith_builtin rfl (Calls.evalArgs_plain (Calls.spliced_cons (thn (he.run pins s1 σ H1 _ I1 q1) fun iv s2 ⟨y,H2,I2,ry,ov,g,q2⟩=>Calls.spliced_nil ?_)))
 exact ayX hu I2 g ry fun w' s3 I3 rw'=>⟨_,H2,I3,rw',q2⟩
theorem anq(hu:X.A.units+9<cLine)(ho:PE X o td)(he:PE X e ty)(hf:PE X f tx)(m:M2 X o "get" apos e f cpos):PE X (.Call (.Attribute o "get" apos) [e,f] [] cpos) (ay0 X.K X.w td ty tx):=by
 refine ⟨fun pins s σ H Q I h=> ?_⟩
 refine wpAny_Call_method m.base m.few m.line PySem.F.plainAttrs_dict PySem.F.slot_dict_get PySem.F.type_dict_get (thn (ho.run pins s σ H _ I h) fun u s1 ⟨x,H1,I1,rx,a,ex,d,q1⟩=> ?_)
 subst ex
 obtain rfl:u=Value.ref a:=rx
 obtain ⟨t1,t2,_⟩:=aeC I1 d
 refine ⟨t1,t2, ?_⟩
 rw [m.trees]
 refine Calls.callWith_builtin rfl (Calls.evalArgs_plain (Calls.spliced_cons (thn (he.run pins s1 σ H1 _ I1 q1) fun iv s2 ⟨y,H2,I2,ry,q2⟩=>
  Calls.spliced_cons (thn (hf.run pins s2 σ H2 _ I2 q2) fun fv s3 ⟨z,H3,I3,rz,ov,g,q3⟩=>Calls.spliced_nil ?_))))
 exact ayY hu I3 g ry rz fun w' s4 I4 rw'=>⟨_,H3,I4,rw',q3⟩
theorem anr:PE X (.Dict [] [] pos) (ay1 X.w):=⟨fun pins s σ H Q I h=>
 wpAny_Dict_empty ⟨.ref s.heap.objs.size,_,I.laid (a:=s.heap.objs.size) (o:=DL.nkO X.w s.heap.objs.size []) (t':=s.toks) (fun _ _ q=>Heap.get?_push_of_some _ q) (Nat.le_refl _)
  (ano (Nat.zero_le _) (beq_eq_false_iff_ne.mpr (Ne.symm (Nat.ne_of_lt I.big))) .nil (Heap.DictOfH.new s.heap)),rfl,h _ (I.hok.fresh (Nat.le_refl _))⟩⟩
end
end L2
end
section
namespace DL
open PySem L2
variable[bG]
def asI(a:Option (List Tx))(b:Option (List Int)):Option KB:=match a,b with|some x,some y=>some (x,y)|_,_=>none
def kbD:D→Option KB
 | .tup [.tup a, .tup b]=>asI (mH a) (j6 b)
 |_=>none
theorem UG{x:D}{k:KB}(h:kbD x=some k):x=lM k:=by
 unfold kbD at h
 split at h
 ·rename_i a b
  unfold asI at h
  split at h
  ·rename_i x y h1 h2
   cases h
   unfold lM
   rw [QG h1,QF h2]
  ·cases h
 ·cases h
theorem avh{a:List Tx}{b:List Int}:kbD (.tup [.tup (a.map D.str), .tup (b.map D.int)])=some (a,b):=by
 show asI (mH (a.map D.str)) (j6 (b.map D.int))=_
 rw [yR,uG]
 rfl
theorem aDh{k:KB}:kbD (lM k)=some k:=avh
theorem UJ: ∀{a b:List Tx},a.map (fun x=>NestedKey.text (aZ x))=b.map (fun x=>NestedKey.text (aZ x))→a=b
 |[],[],_=>rfl
 |[],_::_,h=>by simp at h
 |_::_,[],h=>by simp at h
 |x::a,y::b,h=>by
  simp only [List.map_cons,List.cons.injEq,NestedKey.text.injEq] at h
  rw [uE h.1,UJ h.2]
theorem acK: ∀{a b:List Int},a.map NestedKey.num=b.map NestedKey.num→a=b
 |[],[],_=>rfl
 |[],_::_,h=>by simp at h
 |_::_,[],h=>by simp at h
 |x::a,y::b,h=>by
  simp only [List.map_cons,List.cons.injEq,NestedKey.num.injEq] at h
  rw [h.1,acK h.2]
theorem agW{a b:KB}(h:nkB a=nkB b):a=b:=by
 obtain ⟨a1,a2⟩:=a
 obtain ⟨b1,b2⟩:=b
 simp only [nkB,NestedKey.tup.injEq,List.cons.injEq,and_true] at h
 rw [UJ h.1,acK h.2]
theorem UL: ∀l:List Tx,NestedKey.depthAll (l.map fun x=> .text (aZ x))=0
 |[]=>by simp [NestedKey.depthAll]
 |x::l=>by simp [NestedKey.depthAll,NestedKey.depth,UL l]
theorem UT: ∀l:List Int,NestedKey.depthAll (l.map .num)=0
 |[]=>by simp [NestedKey.depthAll]
 |x::l=>by simp [NestedKey.depthAll,NestedKey.depth,UT l]
theorem JT(k:KB):(nkB k).depth≤8:=by
 simp [nkB,NestedKey.depth,NestedKey.depthAll,UL,UT]
section
variable{K:PySem.W.Frag}{F H:Hp}
theorem avi: ∀{l:List Tx} {vs:List V},aY K F vs (l.map D.str)→Uw K H (l.map fun x=> .text (aZ x)) vs
 |[],_, .nil=> .nil
 |x::l,_, .cons r q=>by
  cases r
  exact .cons (.text _) (avi q)
theorem avj: ∀{l:List Int} {vs:List V},aY K F vs (l.map D.int)→Uw K H (l.map .num) vs
 |[],_, .nil=> .nil
 |x::l,_, .cons r q=>by
  cases r
  exact .cons (.num _) (avj q)
theorem aaG{k:KB}{v:V}(e:Same F H)(r:Rep K F v (lM k)):(∃b,v= .ref b)∧aaF K H (nkB k) v:=by
 unfold lM at r
 cases r with
 |tup s z r=>
  cases r with
  |cons r1 r=>
   cases r with
   |cons r2 r=>
    cases r
    cases r1 with
    |tup s1 z1 q1=>
     cases r2 with
     |tup s2 z2 q2=>
      exact ⟨⟨_,rfl⟩, .tup (cD e s) (.cons (.tup (cD e s1) (avi q1)) (.cons (.tup (cD e s2) (avj q2)) .nil))⟩
def bO{α:Type}(k:KB):List (KB×α)→Option α
 |[]=>none
 |(g,x)::r=>if g=k then some x else bO k r
def d8{α:Type}(k:KB)(x:α):List (KB×α)→List (KB×α)
 |[]=>[(k,x)]
 |(g,y)::r=>if g=k then (g,x)::kbPutR k x r else (g,y)::d8 k x r
where kbPutR (k:KB) (x:α):List (KB×α)→List (KB×α)
 |[]=>[]
 |(g,y)::r=>if g=k then (g,x)::kbPutR k x r else (g,y)::kbPutR k x r
theorem Fw{es:NEs}{ks:List (KB×D)}(e:Same F H)(hk:es.map (·.1)=ks.map (fun p=>nkB p.1))(b:aY K F (es.map fun e=>V.ref e.2.1) (ks.map fun p=>lM p.1)):Ux K H es:=by
 intro x hx
 obtain ⟨i,hi,rfl⟩:=List.mem_iff_getElem.mp hx
 have h1:(es.map (·.1))[i]? =some es[i].1:=by rw [List.getElem?_map,List.getElem?_eq_getElem hi];rfl
 have h2:(es.map fun e=>V.ref e.2.1)[i]? =some (V.ref es[i].2.1):=by rw [List.getElem?_map,List.getElem?_eq_getElem hi];rfl
 obtain ⟨y,h3,r⟩:=b.get h2
 rw [hk,List.getElem?_map] at h1
 rw [List.getElem?_map] at h3
 cases hp:ks[i]? with
 |none=>rw [hp] at h1;cases h1
 |some p=>
  rw [hp] at h1 h3
  have e1:nkB p.1=es[i].1:=Option.some.inj h1
  have e3:lM p.1=y:=Option.some.inj h3
  rw [←e1]
  rw [←e3] at r
  exact ⟨(aaG e r).2,JT _⟩
theorem aaH{k:KB}: ∀{es:NEs} {ks:List (KB×D)},es.map (·.1)=ks.map (fun p=>nkB p.1)→aY K F (es.map (·.2.2)) (ks.map (·.2))→(xU es (nkB k)).isSome=(bO k ks).isSome∧ ∀x,bO k ks=some x→ ∃u,xU es (nkB k)=some u∧Rep K F u x
 |[],[],_,_=>⟨rfl,fun x h=>by cases h⟩
 |[],_::_,h,_=>by simp at h
 |_::_,[],h,_=>by simp at h
 |e::es,(g,y)::ks,h,r=>by
  simp only [List.map_cons,List.cons.injEq] at h
  cases r with
  |cons r1 r2=>
   obtain ⟨i1,i2⟩:=aaH (k:=k) h.2 r2
   unfold bO
   by_cases z:g=k
   ·subst z
    rw [YD h.1,if_pos rfl]
    exact ⟨rfl,fun x hx=>by cases hx;exact ⟨_,rfl,r1⟩⟩
   ·have: ¬e.1=nkB k:=fun q=>z (agW (h.1.symm.trans q))
    rw [YF this,if_neg z]
    exact ⟨i1,i2⟩
theorem UV{v:V}{ks:List (KB×D)}(e:Same F H)(b:jR K F H v (.nct ks)): ∃a w es,v= .ref a∧bG.w=some w∧H a=some (nkO w a es)∧es.map (·.1)=ks.map (fun p=>nkB p.1)∧aY K F (es.map fun e=>V.ref e.2.1) (ks.map fun p=>lM p.1)∧aY K F (es.map (·.2.2)) (ks.map (·.2)):=by
 rcases b with b|⟨fp,b,nt⟩
 ·cases b with
  |nct w h k b r=>exact ⟨_,_,_,rfl,w,e _ _ h,k,b,r⟩
 ·cases b with
  |nct w h k b r n=>exact ⟨_,_,_,rfl,w,h,k,b,r⟩
theorem y_{v y:V}{ks:List (KB×D)}{k:KB}{w:World}(hw:bG.w=some w)(e:Same F H)(b:jR K F H v (.nct ks))(ry:Rep K F y (lM k)):
  ∃a o,v= .ref a∧Ou K w H a y o∧o.isSome=(bO k ks).isSome∧ ∀x,bO k ks=some x→ ∃u,o=some u∧Rep K F u x:=by
 obtain ⟨a,w',es,rfl,hw',g,hk,rk,rv⟩:=UV e b
 rw [hw] at hw'
 cases hw'
 obtain ⟨⟨b,rfl⟩,q⟩:=aaG e ry
 obtain ⟨h1,h2⟩:=aaH (k:=k) hk rv
 exact ⟨a,_,rfl,⟨es,nkB k,b,g,Fw e hk rk,rfl,q,JT k,rfl⟩,h1,h2⟩
theorem acL{v:V}{ks:List (KB×D)}{w:World}(hw:bG.w=some w)(e:Same F H)(b:jR K F H v (.nct ks)): ∃a,v= .ref a∧IsN K w H a:=by
 obtain ⟨a,w',es,rfl,hw',g,hk,rk,rv⟩:=UV e b
 rw [hw] at hw'
 cases hw'
 exact ⟨a,rfl,es,g,Fw e hk rk⟩
end
section
variable{X:Cx}{F0 H0:Hp}{e a b c o f:Expr}{pos p apos pos' cpos:Pos}
def ant:DTr:=fun _ P=>P (.dn [])
theorem aaI(hw:bG.w=some X.w):LTr X F0 H0 (.Dict [] [] pos) ant:=peW anr fun σ H Q ⟨F,ρ,fps,P,E,q,k⟩ A nA=>by
 have nF:=E.x.w.free nA
 exact k _ q F _ _ [A] (.adQ E.x.w nA (by intro _ z;unfold nkO at z;cases z)) (.dn (es:=[]) (ks:=[]) hw upd_same nF rfl .nil .nil) (by simp) fun a ha=>by simp at ha;subst ha;exact nA
def ng3(P:D→Prop)(x:Option D):Prop:=match x with|some y=>P y|none=>False
def ng2(ks:List (KB×D))(P:D→Prop)(k:Option KB):Prop:=match k with|some k=>ng3 P (bO k ks)|none=>False
def ng1(ks:List (KB×D))(P:D→Prop)(y:D):Prop:=ng2 ks P (kbD y)
def ng0(dk:DE)(ρ:Rh)(P:D→Prop)(x:D):Prop:=match x with| .nct ks=>dk ρ (ng1 ks P)|_=>False
def agX(do_ dk:DE):DE:=fun ρ P=>do_ ρ (ng0 dk ρ P)
theorem agY{do_ dk:DE}(hw:bG.w=some X.w)(hu:X.A.units+64<cLine)(ho:LB X F0 H0 o do_)(hk:LE X F0 H0 a dk)(hs:NoSl a:=by exact fun _ _=>rfl):LE X F0 H0 (.Subscript o a pos) (agX do_ dk):=
 peW (asF (by omega) ho hk hs) fun σ H Q ⟨F,ρ,fps,P,R,q,k⟩=>⟨F,ρ,fps,_,R,q,fun x hx F1 H1 v e1 r1=>by
  cases x<;>first|exact False.elim hx|skip
  rename_i ks
  refine ⟨F1,ρ,fps,_,R.ext e1,hx,fun y hy F2 H2 w e2 r2=> ?_⟩
  unfold ng1 ng2 ng3 at hy
  split at hy
  ·rename_i kk hkk
   split at hy
   ·rename_i z hz
    rw [UG hkk] at r2
    obtain ⟨A,ov,rfl,g1,_,g3⟩:=y_ hw e2.w (r1.ext e2) r2
    obtain ⟨u,rfl,ru⟩:=g3 z hz
    exact ⟨A,u,rfl,g1,k z hy F2 H2 u (e1.trans e2) ru⟩
   ·exact hy.elim
  ·exact hy.elim⟩
def ni3(n:Bool)(ks:List (KB×D))(P:Bool→Prop)(k:Option KB):Prop:=match k with|some k=>P (if n then !(bO k ks).isSome else (bO k ks).isSome)|none=>False
def ni2(n:Bool)(y:D)(P:Bool→Prop)(x:D):Prop:=match x with| .nct ks=>ni3 n ks P (kbD y)|_=>False
def ni1(n:Bool)(do_:DE)(ρ:Rh)(P:Bool→Prop)(y:D):Prop:=do_ ρ (ni2 n y P)
def anu(n:Bool)(dk do_:DE):DT:=fun ρ P=>dk ρ (ni1 n do_ ρ P)
theorem aib{dk do_:DE}(hw:bG.w=some X.w)(hu:X.A.units+64<cLine)(hk:LE X F0 H0 a dk)(ho:LB X F0 H0 o do_)(hm:behindInMarks .NotIn o=false:=by rfl):LT X F0 H0 (.Compare a [.NotIn] [o] pos) (anu true dk do_):=
 ptW (pt_cmp (aia (by omega) hk ho) hm) fun σ H Q ⟨F,ρ,fps,P,R,q,k⟩=>⟨F,ρ,fps,_,R,q,fun y hy F1 H1 w e1 r1=>⟨F1,ρ,fps,_,R.ext e1,hy,fun x hx F2 H2 v e2 r2=>by
  cases x<;>first|exact False.elim hx|skip
  rename_i ks
  have hx:ni3 true ks P (kbD y):=hx
  unfold ni3 at hx
  split at hx
  ·rename_i kk hkk
   rw [UG hkk] at r1
   obtain ⟨A,ov,rfl,g1,g2,_⟩:=y_ hw e2.w r2 (r1.mono e2.f)
   refine ⟨A,ov,rfl,g1,_,rfl, ?_⟩
   rw [g2]
   exact k _ hx F2 H2 (e1.trans e2)
  ·exact hx.elim⟩⟩
def nd3(ks:List (KB×D))(z:D)(P:D→Prop)(k:Option KB):Prop:=match k with|some k=>P ((bO k ks).getD z)|none=>False
def asJ(ks:List (KB×D))(P:D→Prop)(y:D):Prop:=nd3 ks .non P (kbD y)
def ay2(dk:DE)(ρ:Rh)(P:D→Prop)(x:D):Prop:=match x with| .nct ks=>dk ρ (asJ ks P)|_=>False
def aeD(do_ dk:DE):DE:=fun ρ P=>do_ ρ (ay2 dk ρ P)
theorem anv{do_ dk:DE}(hw:bG.w=some X.w)(hu:X.A.units+64<cLine)(ho:LB X F0 H0 o do_)(hk:LE X F0 H0 a dk)(m:M1 X o "get" apos a cpos:=by exact ⟨rfl,rfl,rfl,rfl⟩):LE X F0 H0 (.Call (.Attribute o "get" apos) [a] [] cpos) (aeD do_ dk):=
 peW (anp (by omega) ho hk m) fun σ H Q ⟨F,ρ,fps,P,R,q,k⟩=>⟨F,ρ,fps,_,R,q,fun x hx F1 H1 v e1 r1=>by
  cases x<;>first|exact False.elim hx|skip
  rename_i ks
  obtain ⟨A,rfl,isn⟩:=acL hw e1.w r1
  refine ⟨A,rfl,isn,F1,ρ,fps,_,R.ext e1,hx,fun y hy F2 H2 w e2 r2=> ?_⟩
  unfold asJ nd3 at hy
  split at hy
  ·rename_i kk hkk
   rw [UG hkk] at r2
   obtain ⟨A',ov,ea,g1,g2,g3⟩:=y_ hw e2.w (r1.ext e2) r2
   cases ea
   refine ⟨ov,g1,k _ hy F2 H2 _ (e1.trans e2) ?_⟩
   cases h:bO kk ks with
   |some y'=>
    obtain ⟨u',rfl,ru⟩:=g3 y' h
    exact ru
   |none=>
    rw [h] at g2
    cases ov with
    |none=>exact .non
    |some u'=>simp at g2
  ·exact hy.elim⟩
def asK(ks:List (KB×D))(P:D→Prop)(k:Option KB)(z:D):Prop:=nd3 ks z P k
def ay3(ks:List (KB×D))(dz:DE)(ρ:Rh)(P:D→Prop)(y:D):Prop:=dz ρ (asK ks P (kbD y))
def ay4(dk dz:DE)(ρ:Rh)(P:D→Prop)(x:D):Prop:=match x with| .nct ks=>dk ρ (ay3 ks dz ρ P)|_=>False
def aeE(do_ dk dz:DE):DE:=fun ρ P=>do_ ρ (ay4 dk dz ρ P)
theorem anw{do_ dk dz:DE}(hw:bG.w=some X.w)(hu:X.A.units+64<cLine)(ho:LB X F0 H0 o do_)(hk:LE X F0 H0 a dk)(hz:LE X F0 H0 b dz)(m:M2 X o "get" apos a b cpos:=by exact ⟨rfl,rfl,rfl,rfl⟩):LE X F0 H0 (.Call (.Attribute o "get" apos) [a,b] [] cpos) (aeE do_ dk dz):=
 peW (anq (by omega) ho hk hz m) fun σ H Q ⟨F,ρ,fps,P,R,q,k⟩=>⟨F,ρ,fps,_,R,q,fun x hx F1 H1 v e1 r1=>by
  cases x<;>first|exact False.elim hx|skip
  rename_i ks
  obtain ⟨A,rfl,isn⟩:=acL hw e1.w r1
  refine ⟨A,rfl,isn,F1,ρ,fps,_,R.ext e1,hx,fun y hy F2 H2 w e2 r2=>⟨F2,ρ,fps,_,(R.ext e1).ext e2,hy,fun z hz F3 H3 u e3 r3=> ?_⟩⟩
  unfold asK nd3 at hz
  split at hz
  ·rename_i kk hkk
   rw [UG hkk] at r2
   obtain ⟨A',ov,ea,g1,g2,g3⟩:=y_ hw e3.w ((r1.ext e2).ext e3) (r2.mono e3.f)
   cases ea
   refine ⟨ov,g1,k _ hz F3 H3 _ ((e1.trans e2).trans e3) ?_⟩
   cases h:bO kk ks with
   |some y'=>
    obtain ⟨u',rfl,ru⟩:=g3 y' h
    exact ru
   |none=>
    rw [h] at g2
    cases ov with
    |none=>exact r3
    |some u'=>simp at g2
  ·exact hz.elim⟩
theorem aic{w:World}(hw:w=X.w):CallR X (.builtin "len") (fun xs H Q=> ∃(a:Addr) (es:NEs),xs=[.ref a]∧H a=some (nkO w a es)∧Ux X.K H es∧Q (.int es.length) H):=by
 subst hw
 intro pins s σ H xs us Q I r q
 obtain ⟨a,es,ex,hd,kv,q⟩:=q
 subst ex
 cases r with
 |cons rx rr=>
  cases rr
  cases rx
  exact aDe I hd kv fun t s' I'=>⟨.int es.length,H,I',⟨t,rfl⟩,q⟩
def ln1(P:D→Prop)(x:D):Prop:=match x with| .nct ks=>P (.int (ks.length:Nat))|_=>False
def anx(d:DE):DE:=fun ρ P=>d ρ (ln1 P)
theorem asL{d:DE}(hw:bG.w=some X.w)(hg:Gl X "len")(hm:X.mg "len"=none)(ho:LB X F0 H0 e d)(he:starEach [e] X.env=(false,eval e X.env)::starEach [] X.env:=by rfl)(hpl:(backTo pos (starEach [] X.env)).any (·.1)=false:=by rfl):
  LE X F0 H0 (.Call (.Name "len" p) [e] [] pos) (anx d):=
 peW (pe_callB (aic rfl) hg hm (by decide+kernel) (pa_cons ho pa_nil he) (by decide) (by decide) he hpl) fun σ H Q ⟨F,ρ,fps,P,R,q,k⟩=>⟨F,ρ,fps,_,R,q,fun x hx F1 H1 v e1 r1=>by
  cases x<;>first|exact False.elim hx|skip
  rename_i ks
  obtain ⟨A,w',es,rfl,hw',g,hk,rk,rv⟩:=UV e1.w r1
  rw [hw] at hw'
  cases hw'
  refine ⟨A,es,rfl,g,Fw e1.w hk rk, ?_⟩
  have:=congrArg List.length hk
  simp only [List.length_map] at this
  rw [this]
  exact k _ hx F1 H1 _ e1 (.int _)⟩
def gd2(ks:List (KD×D))(P:D→Prop)(k:Option KD):Prop:=match k with|some k=>P ((eQ k ks).getD .non)|none=>False
def gd1(ks:List (KD×D))(P:D→Prop)(y:D):Prop:=gd2 ks P (wX y)
def gd0(dk:DE)(ρ:Rh)(P:D→Prop)(x:D):Prop:=match x with| .dct ks=>dk ρ (gd1 ks P)|_=>False
def aeF(do_ dk:DE):DE:=fun ρ P=>do_ ρ (gd0 dk ρ P)
theorem anz{do_ dk:DE}(hu:X.A.units+64<cLine)(ho:LB X F0 H0 o do_)(hk:LE X F0 H0 a dk)(m:M1 X o "get" apos a cpos:=by exact ⟨rfl,rfl,rfl,rfl⟩):LE X F0 H0 (.Call (.Attribute o "get" apos) [a] [] cpos) (aeF do_ dk):=
 peW (pe_dget1 (by omega) ho hk m) fun σ H Q ⟨F,ρ,fps,P,R,q,k⟩=>⟨F,ρ,fps,_,R,q,fun x hx F1 H1 v e1 r1=>by
  cases x<;>first|exact False.elim hx|skip
  rename_i ks
  obtain ⟨A,vs,rfl,g,_,_⟩:=acC e1.w r1
  refine ⟨A,rfl, .inl ⟨vs, .inl g⟩,F1,ρ,fps,_,R.ext e1,hx,fun y hy F2 H2 w e2 r2=> ?_⟩
  unfold gd1 gd2 at hy
  split at hy
  ·rename_i kk hkk
   obtain ⟨rfl,_⟩:=acB r2 hkk
   obtain ⟨A',vs',ea,g,hk,r⟩:=acC e2.w (r1.ext e2)
   cases ea
   obtain ⟨ov,g1,g2,g3⟩:=amE (K:=X.K) (F:=F2) (k:=kk) g hk r
   refine ⟨ov,g1,k _ hy F2 H2 _ (e1.trans e2) ?_⟩
   cases h:eQ kk ks with
   |some y'=>
    obtain ⟨u',rfl,ru⟩:=g3 y' h
    exact ru
   |none=>
    rw [h] at g2
    cases ov with
    |none=>exact .non
    |some u'=>simp at g2
  ·exact hy.elim⟩
end
section
variable{K:PySem.W.Frag}{F:Hp}
theorem BK{α:Type}{k:KB}{x:α}: ∀{r:List (KB×α)},d8.kbPutR k x r=r.map fun p=>if p.1=k then (p.1,x) else p
 |[]=>rfl
 |(g,y)::r=>by
  unfold d8.kbPutR
  rw [List.map_cons,BK]
  split<;>rfl
theorem xW{α:Type}{k:KB}{x:α}: ∀{ks:List (KB×α)},d8 k x ks=if (bO k ks).isSome then ks.map (fun p=>if p.1=k then (p.1,x) else p) else ks++[(k,x)]
 |[]=>rfl
 |(g,y)::r=>by
  unfold d8 bO
  by_cases z:g=k
  ·rw [if_pos z,if_pos z,BK]
   simp [z]
  ·rw [if_neg z,if_neg z,xW]
   split
   ·simp [z]
   ·rfl
theorem anA{k:KB}{v:V}{d:D}{b:Addr}{es:NEs}{ks:List (KB×D)}(hk:es.map (·.1)=ks.map (fun p=>nkB p.1))(rk:aY K F (es.map fun e=>V.ref e.2.1) (ks.map fun p=>lM p.1))(rv:aY K F (es.map (·.2.2)) (ks.map (·.2)))
  (rb:Rep K F (.ref b) (lM k)) (r:Rep K F v d):(xV es (nkB k) b v).map (·.1)=(d8 k d ks).map (fun p=>nkB p.1)∧aY K F ((xV es (nkB k) b v).map fun e=>V.ref e.2.1) ((d8 k d ks).map fun p=>lM p.1)∧aY K F ((xV es (nkB k) b v).map (·.2.2)) ((d8 k d ks).map (·.2)):=by
 rw [xW]
 unfold xV
 rw [(aaH (k:=k) hk rv).1]
 split
 ·have key: ∀{es:NEs} {ks:List (KB×D)},es.map (·.1)=ks.map (fun p=>nkB p.1)→aY K F (es.map fun e=>V.ref e.2.1) (ks.map fun p=>lM p.1)→aY K F (es.map (·.2.2)) (ks.map (·.2))→
    (es.map fun e=>if e.1=nkB k then (e.1,e.2.1,v) else e).map (·.1)=(ks.map fun p=>if p.1=k then (p.1,d) else p).map (fun p=>nkB p.1)∧aY K F ((es.map fun e=>if e.1=nkB k then (e.1,e.2.1,v) else e).map fun e=>V.ref e.2.1) ((ks.map fun p=>if p.1=k then (p.1,d) else p).map fun p=>lM p.1)∧aY K F ((es.map fun e=>if e.1=nkB k then (e.1,e.2.1,v) else e).map (·.2.2)) ((ks.map fun p=>if p.1=k then (p.1,d) else p).map (·.2)):=by
   intro es
   induction es with
   |nil=>
    intro ks h1 h2 h3
    cases ks with
    |nil=>exact ⟨rfl, .nil, .nil⟩
    |cons=>simp at h1
   |cons e es ih=>
    intro ks h1 h2 h3
    cases ks with
    |nil=>simp at h1
    |cons p ks=>
     simp only [List.map_cons,List.cons.injEq] at h1
     cases h2 with
     |cons q2 h2=>
      cases h3 with
      |cons q3 h3=>
       obtain ⟨j1,j2,j3⟩:=ih h1.2 h2 h3
       simp only [List.map_cons]
       by_cases z:p.1=k
       ·have z':e.1=nkB k:=by rw [h1.1,z]
        rw [if_pos z,if_pos z']
        exact ⟨by rw [j1,h1.1], .cons q2 j2, .cons r j3⟩
       ·have z': ¬e.1=nkB k:=fun q=>z (agW (h1.1.symm.trans q))
        rw [if_neg z,if_neg z']
        exact ⟨by rw [j1,h1.1], .cons q2 j2, .cons q3 j3⟩
  exact key hk rk rv
 ·rw [List.map_append,List.map_append,List.map_append,List.map_append,List.map_append,List.map_append]
  exact ⟨by rw [hk];rfl,rk.append (.cons rb .nil),rv.append (.cons r .nil)⟩
end
section
variable{X:Cx}{F0 H0:Hp}{e a b c o f:Expr}{pos p apos pos' cpos:Pos}
def np3(i:Nat)(p:List Stp)(ks:List (KB×D))(y:D)(E:DEn)(ρ:Rh)(k:Option KB):Prop:=match k with|some k=>ks.length<sizeLine∧kJ i p (.dn (d8 k y ks)) ρ E.nx|none=>False
def asM(i:Nat)(p:List Stp)(ks:List (KB×D))(y:D)(E:DEn)(ρ:Rh)(z:D):Prop:=np3 i p ks y E ρ (kbD z)
def np2(dk:DE)(y:D)(E:DEn)(ρ:Rh)(i:Nat)(p:List Stp)(u:Tr):Prop:=match u with| .dn ks=>dk ρ (asM i p ks y E ρ)|_=>False
def np1(dp:DP)(dk:DE)(E:DEn)(ρ:Rh)(y:D):Prop:=dp ρ (np2 dk y E ρ)
def acM(dp:DP)(dk:DE)(dv:DE):DS:=fun E ρ=>dv ρ (np1 dp dk E ρ)
theorem JV{dp:DP}{dk dv:DE}(hw:bG.w=some X.w)(hu:X.A.units+64<cLine)(ho:LP X F0 H0 o dp)(hk:LE X F0 H0 a dk)(hv:LE X F0 H0 b dv)(hs:swapsWith b (some (.Subscript o a pos')) pos.line X.env=pure false:=by rfl):
  LS X F0 H0 (.Assign [.Subscript o a pos'] b pos) (acM dp dk dv):=
 psW (asH (by omega) ho hk hv hs) fun D σ H ⟨F,ρ,fps,E,R,q,k⟩=>⟨F,ρ,fps,_,R,q,fun y hy F1 H1 v e1 r1=>⟨F1,ρ,fps,_,R.ext e1,hy,fun i pp u hu' F2 H2 w e2 at2=>by
  cases u<;>first|exact False.elim hu'|skip
  rename_i ks
  refine ⟨F2,ρ,fps,_,(R.ext e1).ext e2,hu',fun z hz F3 H3 zv e3 rz=> ?_⟩
  unfold asM np3 at hz
  split at hz
  ·rename_i kk hkk
   rw [UG hkk] at rz
   have R3:=((R.ext e1).ext e2).ext e3
   have at3:=at2.mono e3.n
   have r3:Rep X.K F3 v y:=r1.mono (e2.f.trans e3.f)
   obtain ⟨⟨B,rfl⟩,kq⟩:=aaG R3.x.w rz
   obtain ⟨fq,q1,q2,q3,q5,q4⟩:=R3.axe at3 (Uq hz.2)
   cases q1 with
   |dn hw' g nF hk rk rv=>
    rename_i A w' es
    rw [hw] at hw'
    cases hw'
    obtain ⟨j1,j2,j3⟩:=anA hk rk rv rz r3
    obtain ⟨ρ',fps',hp,R'⟩:=q4 F3 (upd H3 A (nkO X.w A (xV es (nkB kk) B v))) (.dn (d8 kk y ks)) [A] (.upd R3.x.w nF (by simp) (.of g (nt:=fun _ z=>by unfold nkO at z;cases z) (ne:=fun _ _=>Qm)) (by intro _ z;unfold nkO at z;cases z))
     (.dn hw upd_same nF j1 j2 j3) (by simp) (fun b hb=> .inl hb) _ hz.2
    have hlen:es.length<sizeLine:=by
     have:=congrArg List.length hk
     simp only [List.length_map] at this
     have:=hz.1
     omega
    exact ⟨A,_,rfl,⟨es,nkB kk,B,g,Fw R3.x.w hk rk,rfl,kq,JT kk,hlen,rfl⟩,k.nx F3 _ _ _ _ ((e1.f.trans e2.f).trans e3.f) R' hp⟩
  ·exact hz.elim⟩⟩
end
section
variable{E:DEn}{ρ:Rh}{i:Nat}{p:List Stp}{P:D→Prop}{PB:Bool→Prop}{PT:Tr→Prop}{dp:DP}{da db dk dv dz:DE}{ks:List (KB×D)}{kd:List (KD×D)}{k:KB}{kk:KD}{x y z:D}{n:Bool}
theorem aDi:ant ρ PT=PT (.dn []):=id rfl
theorem ay5:agX da dk ρ P=da ρ (ng0 dk ρ P):=id rfl
theorem aDj:ng0 dk ρ P (.nct ks)=dk ρ (ng1 ks P):=id rfl
theorem aDk:ng1 ks P y=ng2 ks P (kbD y):=id rfl
theorem aDl:ng2 ks P (some k)=ng3 P (bO k ks):=id rfl
theorem aDm:ng3 P (some x)=P x:=id rfl
theorem ay6:anu n dk da ρ PB=dk ρ (ni1 n da ρ PB):=id rfl
theorem aDn:ni1 n da ρ PB y=da ρ (ni2 n y PB):=id rfl
theorem aDo:ni2 n y PB (.nct ks)=ni3 n ks PB (kbD y):=id rfl
theorem ay7:ni3 false ks PB (some k)=PB (bO k ks).isSome:=id rfl
theorem ay8:ni3 true ks PB (some k)=PB (!(bO k ks).isSome):=id rfl
theorem asN:aeD da dk ρ P=da ρ (ay2 dk ρ P):=id rfl
theorem ay9:ay2 dk ρ P (.nct ks)=dk ρ (asJ ks P):=id rfl
theorem ay_:asJ ks P y=nd3 ks .non P (kbD y):=id rfl
theorem asO:aeE da dk dz ρ P=da ρ (ay4 dk dz ρ P):=id rfl
theorem aza:ay4 dk dz ρ P (.nct ks)=dk ρ (ay3 ks dz ρ P):=id rfl
theorem azb:ay3 ks dz ρ P y=dz ρ (asK ks P (kbD y)):=id rfl
theorem azc:asK ks P (some k) z=nd3 ks z P (some k):=id rfl
theorem aDp:nd3 ks z P (some k)=P ((bO k ks).getD z):=id rfl
theorem azd:anx da ρ P=da ρ (ln1 P):=id rfl
theorem aDq:ln1 P (.nct ks)=P (.int (ks.length:Nat)):=id rfl
theorem asQ:aeF da dk ρ P=da ρ (gd0 dk ρ P):=id rfl
theorem aDr:gd0 dk ρ P (.dct kd)=dk ρ (gd1 kd P):=id rfl
theorem aDs:gd1 kd P y=gd2 kd P (wX y):=id rfl
theorem aDt:gd2 kd P (some kk)=P ((eQ kk kd).getD .non):=id rfl
theorem aze:acM dp dk dv E ρ=dv ρ (np1 dp dk E ρ):=id rfl
theorem aDu:np1 dp dk E ρ y=dp ρ (np2 dk y E ρ):=id rfl
theorem aDv:np2 dk y E ρ i p (.dn ks)=dk ρ (asM i p ks y E ρ):=id rfl
theorem azf:asM i p ks y E ρ z=np3 i p ks y E ρ (kbD z):=id rfl
theorem aDw:np3 i p ks y E ρ (some k)=(ks.length<sizeLine∧kJ i p (.dn (d8 k y ks)) ρ E.nx):=id rfl
theorem asR:(Tr.dn ks).flat=some (.nct ks):=id rfl
theorem azg:(Tr.dn ks).data=some (.nct ks):=by simp only [Tr.data]
end
end DL
end
section
namespace L2
open PySem PySem.Spec PyProof.Rows
section
variable{X:Cx}{pins:List (Addr×Obj)}{σ:St}{H:Hp}{s:Shared}{d:Addr}{o:Obj}
theorem asS{es:NEs}{xs:List (NestedKey×Addr×Value)}(r:DL.NKT es xs): ∀{i:Nat} {e:NestedKey×Addr×V},es[i]? =some e→ ∃x,xs[i]? =some x∧e.1=x.1∧e.2.1=x.2.1∧RelV e.2.2 x.2.2:=by
 induction r with
 |nil=>intro i e h;simp at h
 |cons h t ih=>
  intro i e q
  cases i with
  |zero=>simp at q;subst q;exact ⟨_,rfl,h⟩
  |succ i=>simpa using ih (by simpa using q)
theorem azh{es:NEs}(I:Inv X pins σ H s)(h:H d=some (.frz o (DL.nkO X.w d es))):
  (d==sysModules)=false∧s.heap.get? d=some o∧o.ExactDict∧ ∃(des:Array DictEntry) (ep:Nat),o.data= .dict des ep∧des.size=es.length∧
   ∀(i:Nat) (e:NestedKey×Addr×V),es[i]? =some e→ ∃(en:DictEntry),des[i]? =some en∧en.key= .ref e.2.1∧RelV e.2.2 en.val:=by
 obtain ⟨hd,⟨z,hs,xs,pr,o',des,ep,ho,hx,hdt,he,_⟩,_⟩:=(show ObjOk X.prog X.w H s.heap d (.frz o (DL.nkO X.w d es)) from I.hok d _ h)
 rw [hd] at ho
 cases ho
 refine ⟨hs,hd,hx,des,ep,hdt, ?_,fun i e q=> ?_⟩
 ·rw [←Array.length_toList,he,List.length_map]
  exact (Paired.length pr).symm
 ·obtain ⟨x,hx1,e1,e2,e3⟩:=asS pr q
  refine ⟨DL.atx X.w x, ?_,by rw [e2];rfl,e3⟩
  rw [←Array.getElem?_toList,he,List.getElem?_map,hx1]
  rfl
end
def azi(w:World)(d:Addr)(o:Obj)(es:NEs):It:=
 ⟨fun i H=>H d=some (.frz o (DL.nkO w d es))∧i<es.length,fun i H x H'=> ∃T e,es[i]? =some e∧x= .ref T∧H T=none∧H'=upd H T (.tup [.ref e.2.1,e.2.2]),fun i H=>H d=some (.frz o (DL.nkO w d es))∧es.length≤i⟩
section
variable{P:Program}{w:World}{K:PySem.W.Frag}{d:Addr}{o:Obj}{des:Array DictEntry}{ep:Nat}
theorem acN{es:NEs}{elts:List Expr}{kk:Nat}{tpos:Pos}(it:Addr)(hod:o.data= .dict des ep):
  Turn P w K (.Tuple elts kk tpos) (azi w d o es) [it] it (fun i h=> ∃ok ov,IsItemIter h it d i es.length ep ok ov) where
 mem:=by simp
 obj:=fun i h st b hb=>by
  have e:b=it:=by simpa using hb
  subst e
  obtain ⟨ok,ov,e⟩:=st
  exact ⟨_,e,fun v z=>nomatch z⟩
 keep:=fun i h h' st k=>let ⟨ok,ov,e⟩:=st;⟨ok,ov,k it (by simp) _ e⟩
 item:=by
  intro X hP hw hK hc i pins s σ H E I hf st hg
  subst hP hw hK
  obtain ⟨hd,hi⟩:=hg
  obtain ⟨hs,hgd,hx,es',ep',hdt,hsz,ent⟩:=azh I hd
  obtain ⟨rfl,rfl⟩:=dict_ep hod hdt
  obtain ⟨e,hkv⟩: ∃p,es[i]? =some p:=⟨es[i],List.getElem?_eq_getElem hi⟩
  obtain ⟨en,hen,hkey,rv⟩:=ent i e hkv
  obtain ⟨ok,ov,he⟩:=st
  rw [←hsz] at he
  have hlt:it<s.heap.objs.size:=Heap.lt_size he
  have hi':i<es'.size:=by rw [hsz];exact hi
  have een:es'[i]=en:=by
   have:=Array.getElem?_eq_getElem hi'
   rw [hen] at this
   exact (Option.some.inj this).symm
  refine DT.nextI he ⟨o,hgd,hx,hdt⟩ hi' fun h' ho hT hz hk=> ?_
  rw [een] at ho hT
  refine ⟨_,rfl,PySem.wpAny_letOwnedTupleGo_items (s:={ s with heap:=h' }) ho fun h'' he' sb=> ?_⟩
  have hT2:h''.get? s.heap.objs.size=some { cls:= .type "tuple",data:= .seq #[en.key,en.val] }:=(sb.2 _ (Nat.ne_of_gt hlt)).trans hT
  have new:ObjOk X.prog X.w (upd H s.heap.objs.size (.tup [.ref e.2.1,e.2.2])) h'' s.heap.objs.size (.tup [.ref e.2.1,e.2.2]):=
   ⟨by show 2≤sizeLine;decide,[en.key,en.val], .cons hkey (.cons rv .nil),⟨_,hT2,rfl,_,rfl⟩⟩
  have I1:Inv X pins σ (upd H s.heap.objs.size (.tup [.ref e.2.1,e.2.2])) { s with heap:=h'' }:=
   I.turnedNew (t':=s.toks) (ch:=[it]) (fun b ob hb e=>(sb.2 b (by simpa using hb)).trans (hk b ob (by simpa using hb) e)) hf (Nat.le_refl _) new
  refine ⟨.ref s.heap.objs.size,_,I1,rfl,⟨_,e,hkv,rfl,I.hok.fresh (Nat.le_refl _),rfl⟩,⟨en.key,en.val, ?_⟩,fun b hb=> ?_⟩
  ·rw [←hsz];exact he'
  ·have e:b=it:=by simpa using hb
   rw [e,upd_ne (Nat.ne_of_lt hlt)]
   exact (hf it (by simp)).1
 done:=by
  intro X hP hw hK hc i pins s σ H E I hf st hg
  subst hP hw hK
  obtain ⟨hd,hi⟩:=hg
  obtain ⟨f0,f1,f2,f3,f4,f5⟩:=hf it (by simp)
  obtain ⟨hs,hgd,hx,es',ep',hdt,hsz,ent⟩:=azh I hd
  obtain ⟨rfl,rfl⟩:=dict_ep hod hdt
  obtain ⟨ok,ov,he⟩:=st
  rw [←hsz] at he
  exact DT.endI (I.ok.hd hc) he ⟨o,hgd,hx,hdt⟩ (by rw [hsz];exact hi) fun h' eb=>⟨rfl,I.turned (t':=s.toks) (fun b ob hb e=>eb b ob hb e) f0 f1 f3 f4 f5⟩
 self:=fun A i s Q E st h=>let ⟨_,_,e⟩:=st;PySem.W.kcp_self e h
end
def asT(w:World)(td:TE):TI:=fun σ H R=>td σ H fun x H1=> ∃d o es,x= .ref d∧H1 d=some (.frz o (DL.nkO w d es))∧R (azi w d o es) H1
section
variable{X:Cx}{e:Expr}{td:TE}{apos cpos:Pos}
theorem aid{elts:List Expr}{kk:Nat}{tpos:Pos}(he:PE X e td)(hbase:attributeBase e "items" X.env (eval e X.env)=eval e X.env:=by rfl)(hline:(apos.endLine==cpos.line)=true:=by rfl):
  PI X (.Tuple elts kk tpos) (.Call (.Attribute e "items" apos) [] [] cpos) (asT X.w td):=by
 refine ⟨fun pins s σ H R I h=> ?_⟩
 refine wpAny_Call_method (T:="dict") (id:="dict.items") hbase rfl hline F.plainAttrs_dict F.slot_dict_items F.type_dict_items (thn (he.run pins s σ H _ I h) fun u s1 ⟨x,H1,I1,rx,d,o,es0,ex,hd,q⟩=> ?_)
 subst ex
 obtain rfl:u=Value.ref d:=rx
 obtain ⟨hs,hgd,hx,es,ep,hdt,hsz,ent⟩:=azh I1 hd
 have hm:DT.Raw s1.heap d es ep:=⟨o,hgd,hx,hdt⟩
 refine ⟨hm.typeIs, ?_, ?_⟩
 ·intro a e
  cases e
  exact ⟨o,hgd,by first|exact hx.2|exact hx.2.1|exact hx.2.2⟩
 have I2:Inv X pins σ H1 { s1 with heap:=s1.heap.push { cls:= .type "dict_items",data:= .fields #[.ref d] } }:=I1.kept (t':=s1.toks) fun b ob q=>Heap.get?_push_of_some _ q
 have fin:wpAny (model X.prog X.w) X.A (pyIter (.ref s1.heap.objs.size)) (PIE X pins σ (.Tuple elts kk tpos) R) X.xe { s1 with heap:=s1.heap.push { cls:= .type "dict_items",data:= .fields #[.ref d] } }:=by
  refine DT.iterI (d:=d) ⟨_,Heap.get?_push_size _ rfl,rfl,rfl⟩ (hm.push _) (pi_one (tk:=s1.toks) I2 _ (acN _ hdt) ⟨.none, .none, ?_⟩ q)
  rw [←hsz]
  exact Heap.get?_push_size _ rfl
 show wpAny _ _ (callWith cpos (.builtin "dict.items") [.ref d] [] []) _ X.xe s1
 exact method_meetsIn F.slot_dict_items F.entry_dict_items rfl (PySem.evalArgs_none ⟨rfl,hm.typeIs,F.args_dict_items_1 _,_,DT.meetsItems (es:=es) (ep:=ep) hs,⟨hm,fin⟩⟩)
end
end L2
namespace DL
open PySem L2
variable[bG]
def o8(l:List (KB×D)):List D:=l.map fun p=> .tup [lM p.1,p.2]
structure FaN(K:PySem.W.Frag)(F H0:Hp)(w:World)(d:Addr)(od:Obj)(es:NEs)(ks:List (KB×D)):Prop where
 hd:H0 d=some (.frz od (nkO w d es))
 hk:es.map (·.1)=ks.map (fun p=>nkB p.1)
 rk:aY K F (es.map fun e=>V.ref e.2.1) (ks.map fun p=>lM p.1)
 rv:aY K F (es.map (·.2.2)) (ks.map (·.2))
theorem FaN.len{K:PySem.W.Frag}{F H0:Hp}{w:World}{d:Addr}{od:Obj}{es:NEs}{ks:List (KB×D)}(fa:FaN K F H0 w d od es ks):es.length=ks.length:=by
 have:=congrArg List.length fa.hk
 simpa using this
theorem azj{K:PySem.W.Frag}{F H0:Hp}{w:World}{d:Addr}{od:Obj}{es:NEs}{ks:List (KB×D)}(fa:FaN K F H0 w d od es ks):Zy K F H0 (azi w d od es) (o8 ks) where
 go:=fun H i _ e hi=>⟨e _ _ fa.hd (fun _ z=>by cases z),by
  have:=fa.len
  unfold o8 at hi
  rw [List.length_map] at hi
  omega⟩
 stop:=fun H _ e=>⟨e _ _ fa.hd (fun _ z=>by cases z),by
  have:=fa.len
  unfold o8
  rw [List.length_map]
  omega⟩
 yld:=fun F1 H i v H' y e1 e2 _ q hx=>by
  obtain ⟨T,e,he,rfl,nT,rfl⟩:=q
  unfold o8 at hx
  rw [List.getElem?_map] at hx
  cases hp:ks[i]? with
  |none=>rw [hp] at hx;cases hx
  |some p=>
   rw [hp] at hx
   cases hx
   have g1:(es.map fun e=>V.ref e.2.1)[i]? =some (.ref e.2.1):=by rw [List.getElem?_map,he];rfl
   have g2:(es.map (·.2.2))[i]? =some e.2.2:=by rw [List.getElem?_map,he];rfl
   obtain ⟨y1,h1,r1⟩:=fa.rk.get g1
   obtain ⟨y2,h2,r2⟩:=fa.rv.get g2
   rw [List.getElem?_map,hp] at h1 h2
   cases h1
   cases h2
   exact ⟨_, .new e2 nT,rB e2 nT (.cons (r1.mono e1) (.cons (r2.mono e1) .nil)) (by show 2≤sizeLine;decide)⟩
section
variable{X:Cx}{F0 H0:Hp}{o:Expr}{pos p1 apos cpos:Pos}
def diN(x:Addr)(ks:List (KB×D))(i:Nat):DI:=fun ρ P=>ρ[i]? =some (.sh (.fn x))∧P (o8 ks)
theorem azk{i:Nat}{d:Addr}{od:Obj}{es:NEs}{ks:List (KB×D)}{elts:List Expr}{kk:Nat}{tpos:Pos}(fa:FaN X.K F0 H0 X.w d od es ks)(ho:PE X o (tVar i))
  (hbase:attributeBase o "items" X.env (eval o X.env)=eval o X.env) (hline:(apos.endLine==cpos.line)=true):
  LI X F0 H0 (.Tuple elts kk tpos) (.Call (.Attribute o "items" apos) [] [] cpos) (diN d ks i):=
 piW (aid ho hbase hline) fun σ H R ⟨F,ρ,fps,P,E,⟨hs,q⟩,k⟩=>by
  obtain ⟨y,fp,h1,_,h3⟩:=E.s.get hs
  cases h3 with
  |sh r=>
   cases r
   have hd:=E.x.n _ _ fa.hd (fun _ z=>by cases z)
   exact ⟨.ref d,h1,d,od,es,rfl,hd,k (o8 ks) q F H _ (.refl E.x.w) (azj ⟨fa.hd,fa.hk,fa.rk.mono E.x.f,fa.rv.mono E.x.f⟩)⟩
def aEW(K:PySem.W.Frag)(w:World)(i:Nat)(is:List Nat)(dg:DG)(dt:DT)(de:DE):TE:=fun σ H Q=> ∃F0 H0 d od es ks,FaN K F0 H0 w d od es ks∧low K F0 H0 (dLc is (diN d ks i) dg dt de) σ H Q
def azl(i:Nat)(vsl:List Nat)(dg:DG)(dt:DT)(de:DE)(ρ:Rh)(P:D→Prop)(ks:List (KB×D)):Prop:=
 (ρ.set i .no).all Uv=true∧(o8 ks).length≤sizeLine∧ ∀x:Addr,lcD vsl dg dt de (ρ.set i (.sh (.fn x))) (o8 ks) fun ys=>P (.lst ys)
def asU(i:Nat)(vsl:List Nat)(dg:DG)(dt:DT)(de:DE)(ρ:Rh)(P:D→Prop)(_:Option V)(t:Tr):Prop:=match t with| .dn ks=>azl i vsl dg dt de ρ P ks|_=>False
def azm(i:Nat)(vsl:List Nat)(dg:DG)(dt:DT)(de:DE):DE:=fun ρ P=>sH i ρ (asU i vsl dg dt de ρ P)
theorem azn{i:Nat}{elts:List Expr}{kk:Nat}{tpos:Pos}{elt:Expr}{ifs:List Expr}{scope:Scope}{own:List (Str×Nat)}{is:List Nat}{g:TG}{dg:DG}{dt:DT}{de:DE}(hw:bG.w=some X.w)(hc:X.calm=true)(hN:X.N.Nodup)(ho:PE X o (tVar i))(ok:BlkOk X.N X.env.scope scope own)
  (pg: ∀(s:Shared) (H:Hp) (C:Addr) (cl:List (Str×Addr)) (fp:List Addr),PG (X.blk s H scope (compEnvC scope cl C X.env) fp) (.Tuple elts kk tpos) g) (hg:CK X.K g dg is) (his:(is.all fun i=>(own.map (·.2)).contains i)=true)
  (ht: ∀(F0 H0:Hp) (s:Shared) (H:Hp) (C:Addr) (cl:List (Str×Addr)) (fp:List Addr),PTs (X.blk s H scope (compEnvC scope cl C X.env) fp) ifs (Qo X.K F0 H0 dt))
  (he: ∀(F0 H0:Hp) (s:Shared) (H:Hp) (C:Addr) (cl:List (Str×Addr)) (fp:List Addr),LE (X.blk s H scope (compEnvC scope cl C X.env) fp) F0 H0 elt de)
  (hbase:attributeBase o "items" X.env (eval o X.env)=eval o X.env:=by rfl) (hline:(apos.endLine==cpos.line)=true:=by rfl)
  (hs: ∀x,foldedSetIterable (.Call (.Attribute o "items" apos) [] [] cpos) X.env x=pure x:=by intro _;rfl):
  LE X F0 H0 (.ListComp elt [⟨.Tuple elts kk tpos, .Call (.Attribute o "items" apos) [] [] cpos,ifs,0⟩] scope pos) (azm i (own.map (·.2)) dg dt de):=by
 have h0:PE X (.ListComp elt [⟨.Tuple elts kk tpos, .Call (.Attribute o "items" apos) [] [] cpos,ifs,0⟩] scope pos) (aEW X.K X.w i (own.map (·.2)) dg dt de):=
  ⟨fun pins s σ H Q I ⟨F0,H0,d,od,es,ks,fa,q⟩=>(jZ hc hN (azk (F0:=F0) fa ho hbase hline) ok pg hg his (ht F0 H0) (he F0 H0) hs).run pins s σ H Q I q⟩
 refine peW (pe_lock h0) fun σ H Q ⟨F,ρ,fps,P,R,q,k⟩=> ?_
 obtain ⟨ov,t,hs,q⟩:=uH q
 unfold asU at q
 split at q
 ·rename_i ks
  obtain ⟨pl,zl,q⟩:=q
  obtain ⟨v,fp,h1,h2,h3,h4,h5,h6,h7,h8⟩:=R.Um hs
  cases h3 with
  |dn hw' g nF hk rk rv=>
   rename_i d w' es
   rw [hw] at hw'
   cases hw'
   have H0d:H0 d=none:=h6 d (by simp)
   have ne1: ∀ps,nkO X.w d es≠ .tbl ps:=fun _ z=>by unfold nkO at z;cases z
   have ne3: ∀ks:List Key,nkO X.w d es≠ .tup (ks.map kV):=fun _ z=>by unfold nkO at z;cases z
   refine ⟨d,nkO X.w d es,g,True.intro,fun od=>⟨F,upd H d (.frz od (nkO X.w d es)),d,od,es,ks,⟨upd_same,hk,rk,rv⟩,F,ρ.set i (.sh (.fn d)),fps.set i [],P, ?_, ?_,fun y hy F' H' v e r=> ?_⟩⟩
   ·have st:=R.s.set (x:=some (.ref d)) (s:= .sh (.fn d)) (fp:=[]) (.sh (.fn d)) i
    rw [Fp h1] at st
    obtain ⟨s1,s2⟩:=anl (F0':=F) (H0':=upd H d (.frz od (nkO X.w d es))) (H':=upd H d (.frz od (nkO X.w d es))) (.refl F) st (asz rfl pl)
    have sm:Same F (upd H d (.frz od (nkO X.w d es))):=fun b u hb=>by rw [upd_ne (ne_of_none hb nF)];exact R.x.w _ _ hb
    exact ⟨.refl sm,s1,⟨by rw [s2];exact List.nodup_nil,fun b hb=>by rw [s2] at hb;cases hb⟩,abi R.b (.of g (nt:=ne1) (ne:=fun _ _=>Qm))⟩
   ·refine ⟨?_,zl,q d⟩
    have hi:=(List.getElem?_eq_some_iff.mp hs).1
    rw [List.getElem?_set_self hi]
   ·obtain ⟨e1,e2⟩:=anm e g nF ne1 (fun _ _=>Qm) ne3
    exact ⟨e1,k y hy F' _ v e2 r⟩
 ·exact q.elim
end
abbrev En:=KB×Int
def b_(e:En):D:= .tup [.tup (e.1.1.map .str), .tup (e.1.2.map .int), .int e.2]
def lG(e:En):PyData:= .tuple [.tuple (e.1.1.map fun x=> .str (aZ x)), .tuple (e.1.2.map .int), .int e.2]
def acO(l:List En):List En:=l.mergeSort (PySem.W.dataLe false lG)
theorem agZ{K:PySem.W.Frag}{F H:Hp}: ∀{l:List Tx} {vs:List V},aY K F vs (l.map D.str)→DpAll K H vs (l.map fun x=> .str (aZ x))
 |[],_, .nil=> .nil
 |x::l,_, .cons r q=>by
  cases r
  exact .cons (.str _) (agZ q)
theorem ag0{K:PySem.W.Frag}{F H:Hp}: ∀{l:List Int} {vs:List V},aY K F vs (l.map D.int)→DpAll K H vs (l.map .int)
 |[],_, .nil=> .nil
 |x::l,_, .cons r q=>by
  cases r
  exact .cons (.int _) (ag0 q)
theorem azo{K:PySem.W.Frag}{F H:Hp}(e:Same F H){v:V}{x:En}(r:Rep K F v (b_ x)):Dp K H v (lG x):=by
 unfold b_ at r
 cases r with
 |tup s z r=>
  cases r with
  |cons r1 r=>
   cases r with
   |cons r2 r=>
    cases r with
    |cons r3 r=>
     cases r
     cases r3
     cases r1 with
     |tup s1 z1 q1=>
      cases r2 with
      |tup s2 z2 q2=>
       exact .tup (cD e s) (.cons (.tup (cD e s1) (agZ q1)) (.cons (.tup (cD e s2) (ag0 q2)) (.cons (.int _) .nil)))
theorem UW: ∀xs ys:List Tx,PySem.W.alikeAll (xs.map fun x=> .str (aZ x)) (ys.map fun x=> .str (aZ x))=true
 |[],_=>by simp [PySem.W.alikeAll]
 |_::_,[]=>by simp [PySem.W.alikeAll]
 |x::xs,y::ys=>by
  simp only [List.map_cons]
  rw [PySem.W.alikeAll,UW xs ys]
  simp [PySem.W.alike]
theorem aie(a b:En):PySem.W.alike (lG a) (lG b)=true:=by
 simp [lG,PySem.W.alike,PySem.W.alikeAll,UW,PySem.W.alike_ints]
theorem U0: ∀xs:List Tx,PyData.depthAll (xs.map fun x=> .str (aZ x))=0
 |[]=>by simp [PyData.depthAll]
 |x::xs=>by simp [PyData.depthAll,PyData.depth,U0 xs]
theorem aif(a:En):(lG a).depth≤3:=by
 simp [lG,PyData.depth,PyData.depthAll,U0,PySem.W.depth_ints]
theorem rQ(l:List En):(acO l).Perm l:=List.mergeSort_perm _ _
def azp(K:PySem.W.Frag)(F:Hp):List V→Hp→VK→Prop:=fun vs H Q=> ∃(a:Addr) (xs:List V) (bs:List En),vs=[V.ref a]∧Same F H∧SqL K H a xs∧aY K F xs (bs.map b_)∧
 ∀(ys:List V) (p:Addr),aY K F ys ((acO bs).map b_)→H p=none→Q (.ref p) (upd H p (.lst ys))
open PyProof.Rows in
theorem anB{X:Cx}(hu:X.A.units+64<cLine)(F:Hp):CallR X (.builtin "sorted") (azp X.K F):=by
 intro pins s σ H vs us Q I r h
 obtain ⟨a,xs,bs,rfl,sm,hs,rl,q⟩:=h
 obtain ⟨its,rv,hl,hz⟩:=I.list hs
 rw [Vals.ref1 r]
 have hlen0:=rv.length
 have hlen1:=rl.length
 rw [List.length_map] at hlen1
 have each: ∀{ws:List V} {ts:List Value} {cs:List En},Vals ws ts→aY X.K F ws (cs.map b_)→PySem.W.EachIs (fun (u:Value) (b:En)=> ∃v,RelV v u∧Rep X.K F v (b_ b)) ts cs∧PySem.W.EachIs (fun v b=> ∃as,Reads s.heap v (lG b) as) ts cs:=by
  intro ws ts cs h1
  induction h1 generalizing cs with
  |nil=>
   intro h2
   cases cs with
   |nil=>exact ⟨.nil, .nil⟩
   |cons c cs=>cases h2
  |cons h1 t1 ih=>
   intro h2
   cases cs with
   |nil=>cases h2
   |cons c cs=>
    cases h2 with
    |cons r1 r2=>
     obtain ⟨i1,i2⟩:=ih r2
     exact ⟨.cons ⟨_,h1,r1⟩ i1, .cons (Dp.reads I _ _ _ (azo (H:=H) sm r1) h1) i2⟩
 obtain ⟨e1,e2⟩:=each rv rl
 have hz':bs.length≤sizeLine:=by omega
 have key:=PySem.W.sorted_data (prog:=X.prog) (w:=X.w) (A:=X.A) (E:=X.xe) (s:=s) (l:=a) (vs:=its) (bs:=bs) (enc:=lG) (R:=fun u b=> ∃v,RelV v u∧Rep X.K F v (b_ b)) (Q:=EP X pins σ Q) (by simpa using hl.isList) e1 e2 (PySem.W.AllAlike.of aie) (PySem.W.Sortable.tuples fun b=>⟨_,_,rfl⟩) hz'
  (fun b _=>by have:=aif b;omega) fun out ho eo=> ?_
 ·exact key
 ·have back: ∀{ts:List Value} {cs:List En},PySem.W.EachIs (fun (u:Value) (b:En)=> ∃v,RelV v u∧Rep X.K F v (b_ b)) ts cs→ ∃ws,Vals ws ts∧aY X.K F ws (cs.map b_):=by
   intro ts cs h
   induction h with
   |nil=>exact ⟨[], .nil, .nil⟩
   |cons h t ih=>
    obtain ⟨v,h1,h2⟩:=h
    obtain ⟨ws,g1,g2⟩:=ih
    exact ⟨v::ws, .cons h1 g1, .cons h2 g2⟩
  obtain ⟨ws,g1,g2⟩:=back eo
  obtain ⟨ep,he'⟩:=PyProof.Rows.sortedAll_at s.heap its out.toArray
  have hlen:ws.length≤sizeLine:=by rw [g1.length,ho];exact hz'
  exact ⟨.ref _,upd H (s.heap.objs.size+1) (.lst ws),I.laid (t':=s.toks) (fun _ _=>PyProof.Rows.sortedAll_old) (Nat.le_succ _) ⟨hlen,out,ep,g1,he'⟩,rfl,q ws _ g2 (I.hok.fresh (Nat.le_succ _))⟩
section
variable{X:Cx}{F0 H0:Hp}{e a:Expr}{p pos:Pos}
def sE1(P:D→Prop)(x:D):Prop:= ∃bs:List En,x= .lst (bs.map b_)∧P (.lst ((acO bs).map b_))
def aeG(d:DE):DE:=fun ρ P=>d ρ (sE1 P)
theorem anC{f:Value}{r:Hp→List V→Hp→VK→Prop}(h: ∀F,CallR X f (r F)):CallR X f (fun vs H Q=> ∃F,r F vs H Q):=fun pins s σ H xs us Q I rr ⟨F,q⟩=>h F pins s σ H xs us Q I rr q
theorem anD{d:DE}(hu:X.A.units+64<cLine)(hg:Gl X "sorted")(hm:X.mg "sorted"=none)(ho:LB X F0 H0 e d)(he:starEach [e] X.env=(false,eval e X.env)::starEach [] X.env:=by rfl)(hpl:(backTo pos (starEach [] X.env)).any (·.1)=false:=by rfl):
  LE X F0 H0 (.Call (.Name "sorted" p) [e] [] pos) (aeG d):=
 peW (pe_callB (anC (anB hu)) hg hm (by decide+kernel) (pa_cons ho pa_nil he) (by decide) (by decide) he hpl) fun σ H Q ⟨F,ρ,fps,P,R,q,k⟩=>⟨F,ρ,fps,_,R,q,fun x hx F1 H1 v e1 r1=>by
  obtain ⟨bs,rfl,hx⟩:=hx
  obtain ⟨A,vs,rfl,s,r,z⟩:=r1.lst e1.w
  refine ⟨F1,A,vs,bs,rfl,e1.w,s,r,fun ys p hy hp=>k _ hx _ _ (.ref p) (e1.trans (.new e1.w hp)) (rA e1.w hp hy ?_)⟩
  rw [List.length_map,(rQ bs).length_eq]
  simpa using z⟩
theorem asV{d:DE}{ρ:Rh}{P:D→Prop}:aeG d ρ P=d ρ (sE1 P):=id rfl
end
end DL
end
section
namespace L2
open PySem PySem.Spec PyProof.Rows
def azq(K:PySem.W.Frag)(a:Addr):It:=
 ⟨fun i H=> ∃(xs:List V) (x:V),SqT K H a xs∧xs[i]? =some x,fun i H v H'=> ∃T x,v= .ref T∧H T=none∧H'=upd H T (.tup [.int (i:Nat),x])∧ ∀xs,SqT K H a xs→xs[i]? =some x,fun i H=> ∃xs:List V,SqT K H a xs∧xs.length≤i⟩
theorem aeH{P:Program}{w:World}{K:PySem.W.Frag}{elts:List Expr}{kk:Nat}{tpos:Pos}(a e it:Addr)(hat:a≠it)(hae:a≠e):
  Turn P w K (.Tuple elts kk tpos) (azq K a) [e,it] e (fun i h=>(∃old,IsEnum h e it ((i:Nat):Int) old)∧h.IsTupleIter it a i∧e≠it) where
 mem:=by simp
 obj:=fun i h st b hb=>by
  obtain ⟨⟨old,he⟩,⟨o,ho,hc,hd⟩,_⟩:=st
  have e':b=e∨b=it:=by simpa using hb
  rcases e' with z|z
  ·rw [z];exact ⟨_,he,fun v q=>nomatch q⟩
  ·rw [z];exact ⟨o,ho,fun v q=>by rw [hd] at q;cases q⟩
 keep:=fun i h h' st k=>let ⟨⟨old,he⟩,hi,hne⟩:=st;⟨⟨old,k e (by simp) _ he⟩,hi.at fun o q=>k it (by simp) o q,hne⟩
 item:=by
  intro X hP hw hK hc i pins s σ H E I hf st hg
  subst hP hw hK
  obtain ⟨⟨old,he⟩,hit,hne⟩:=st
  obtain ⟨xs,x,hq,hx⟩:=hg
  obtain ⟨its,rv,p,hz⟩:=I.tuple hq
  obtain ⟨u,hu,ru⟩:=rv.get hx
  have hel:e<s.heap.objs.size:=Heap.lt_size he
  have hil:it<s.heap.objs.size:=by obtain ⟨_,q,_⟩:=hit;exact Heap.lt_size q
  have hlt:i<its.toArray.size:=by simpa using (List.getElem?_eq_some_iff.mp hu).1
  have pt:s.heap.IsTuple a its.toArray:=let ⟨o,h1,h2,n,h3⟩:=p;⟨o,h1,h2,n,h3⟩
  refine wpAny_pyNext_enum_itemD (Draws.tuple (A:=X.A.in1) (I.ok.hd hc) it a hat its.toArray) he ⟨hit,pt⟩ hlt hne (by simp [hne,hae.symm]) fun x' h' tk hP ho hit' hT hsz hk=> ?_
  have ex:x'=u:=by
   have h1:its.toArray[i]? =some u:=by simpa using hu
   rw [h1] at hP
   exact (Option.some.inj hP).symm
  subst ex
  refine ⟨_,rfl,wpAny_letOwnedTupleGo_enum (s:={ s with heap:=h',toks:=tk+1 }) ho fun h'' he' sb=> ?_⟩
  have hT2:h''.get? s.heap.objs.size=some { cls:= .type "tuple",data:= .seq #[.int i tk,x'] }:=(sb.2 _ (Nat.ne_of_gt hel)).trans hT
  have new:ObjOk X.prog X.w (upd H s.heap.objs.size (.tup [.int (i:Nat),x])) h'' s.heap.objs.size (.tup [.int (i:Nat),x]):=
   ⟨by show 2≤sizeLine;decide,[.int i tk,x'], .cons ⟨_,rfl⟩ (.cons ru .nil),⟨_,hT2,rfl,_,rfl⟩⟩
  have I1:Inv X pins σ (upd H s.heap.objs.size (.tup [.int (i:Nat),x])) { s with heap:=h'',toks:=tk+1 }:=
   I.turnedNew (ch:=[e,it]) (fun b ob hb q=>(sb.2 b (fun z=>hb (by simp [z]))).trans (hk b ob (fun z=>hb (by simp [z])) (fun z=>hb (by simp [z])) q)) hf (Nat.le_refl _) new
  refine ⟨.ref s.heap.objs.size,_,I1,rfl,⟨_,x,rfl,I.hok.fresh (Nat.le_refl _),rfl,fun ys hy=>by rw [I.tuple_inj hy hq];exact hx⟩,⟨⟨x', ?_⟩,hit'.1.at fun o q=>(sb.2 it (Ne.symm hne)).trans q,hne⟩,fun b hb=> ?_⟩
  ·have e1:((i+1:Nat):Int)=(i:Int)+1:=by omega
   rw [e1];exact he'
  ·have hb':b<s.heap.objs.size:=by
    have e':b=e∨b=it:=by simpa using hb
    rcases e' with z|z
    ·rw [z];exact hel
    ·rw [z];exact hil
   rw [upd_ne (Nat.ne_of_lt hb')]
   exact (hf b hb).1
 done:=by
  intro X hP hw hK hc i pins s σ H E I hf st hg
  subst hP hw hK
  obtain ⟨⟨old,he⟩,hit,hne⟩:=st
  obtain ⟨xs,hq,hx⟩:=hg
  obtain ⟨its,rv,p,hz⟩:=I.tuple hq
  obtain ⟨f0,f1,f2,f3,f4,f5⟩:=hf it (by simp)
  have hl:=rv.length
  have pt:s.heap.IsTuple a its.toArray:=let ⟨o,h1,h2,n,h3⟩:=p;⟨o,h1,h2,n,h3⟩
  have hT:s.TypeIs (.ref e) "enumerate":=⟨_,he,rfl⟩
  unfold pyNext
  refine wpAny_bind (wpAny_attempt (wpAny_callSpecial?_slot (name:=Str.ofString "__next__") hT F.slot_enumerate_next
   (wpAny_call_entry F.slot_enumerate_next hT F.entry_enumerate_next ?_ (F.args_enumerate_next_1 _))))
  show wpAny _ _ (field (.ref e) 2>>=_) _ _ _
  refine wpAny_bind (wpAny_field he rfl (x:= .ref it) rfl ?_)
  refine wpAny_bind (wpAny_nextOf_tuple_end (I.ok.hd hc) hit pt (by simp;omega) fun h' x he' hx'=> ?_)
  obtain ⟨o,ho,hc⟩:=hx'
  refine wpAny_bind (wpAny_isInstance (T:="StopIteration") (b:=true) ⟨o,ho,hc⟩ isSubtype_stop ?_)
  exact wpAny_pure ⟨rfl,I.turned (t':=s.toks) (fun b o hb q=>he' b o hb q) f0 f1 f3 f4 f5⟩
 self:=fun A i s Q E st h=>let ⟨⟨_,he⟩,_⟩:=st;wpAny_pyIter_enum he h
set_option maxHeartbeats 1000000 in
theorem pQ{v:Value}{o:Obj}{H:Heap→Prop}(B:Begins v o H):
  Meets (Builtin.«enumerate.__new__» ⟨[.type "enumerate",v],[]⟩) (fun _ R s=>H s.heap∧
   R (.ok (.ret (.ref (s.heap.push o).objs.size))) { s with heap:=(s.heap.push o).push { cls:= .type "enumerate",data:= .fields #[.none, .bool false, .ref s.heap.objs.size,rawInt 0, .none, .none] } }):=
 .of_wp fun prog w A R s h=>by
  obtain ⟨hp,g,d,tk,os⟩:=s;obtain ⟨h1,h⟩:=h
  have hsub:=sub_enumerate
  have q1: ∀{A':Around} {E:Value→Shared→Prop} {Q:Value→Shared→Prop},Q (.ref hp.objs.size) ⟨hp.push o,g,d,tk,os⟩→wpAny (model prog w) A' (pyIter v) Q E ⟨hp,g,d,tk,os⟩:=
   fun q=>B.iter prog w _ _ ⟨hp,g,d,tk,os⟩ _ h1 q
  wp_walk using q1
  refine wpAny_stack_any fun st=>wpAny_pure ?_
  split
  ·rename_i c _ _ _ _ _
   cases (c==Value.type "enumerate")
   ·wp_walk using q1
    exact ⟨_,rfl,h⟩
   ·wp_walk using q1
    exact ⟨_,rfl,h⟩
  ·wp_walk using q1
   exact ⟨_,rfl,h⟩
theorem xX{prog:Program}{w:World}{A:Around}{E:Value→Shared→Prop}{s:Shared}{l:Addr}{items:Array Value}{Q:Value→Shared→Prop}(hL:s.heap.IsTuple l items)
  (h: ∀h',IsEnum h' (s.heap.objs.size+1) s.heap.objs.size 0 .none→h'.IsTupleIter s.heap.objs.size l 0→h'.objs.size=s.heap.objs.size+2→
   (∀b o,s.heap.get? b=some o→h'.get? b=some o)→Q (.ref (s.heap.objs.size+1)) { s with heap:=h' }):
  wpAny (model prog w) A (call (.type "enumerate") [.ref l]) Q E s:=by
 refine callType_new F.called_enumerate (by decide) (F.typeCall_enumerate_1 _) (F.newCall_enumerate_1 _) (fun obj=>F.args_object_init_2 obj _) F.entry_enumerate_new
  (pQ (begins_tuple l items)) ⟨hL, ?_⟩
 have hz:(s.heap.push { cls:= .type "tuple_iterator",data:= .fields #[.ref l, .int 0 0] }).objs.size=s.heap.objs.size+1:=Heap.size_push ..
 show _∧_
 rw [hz]
 have he:IsEnum ((s.heap.push { cls:= .type "tuple_iterator",data:= .fields #[.ref l, .int 0 0] }).push
   { cls:= .type "enumerate",data:= .fields #[.none, .bool false, .ref s.heap.objs.size,rawInt 0, .none, .none] }) (s.heap.objs.size+1) s.heap.objs.size 0 .none:=by
  have:=Heap.get?_push_size (s.heap.push { cls:= .type "tuple_iterator",data:= .fields #[.ref l, .int 0 0] })
   (o:={ cls:= .type "enumerate",data:= .fields #[.none, .bool false, .ref s.heap.objs.size,rawInt 0, .none, .none] }) rfl
  rw [hz] at this;exact this
 refine ⟨⟨_,he,rfl⟩,h _ he ⟨_,Heap.get?_push_of_some _ (Heap.get?_push_size _ rfl),rfl,rfl⟩ (by rw [Heap.size_push,hz]) fun b o x=>Heap.get?_push_of_some _ (Heap.get?_push_of_some _ x)⟩
def azr(K:PySem.W.Frag)(ta:TA):TI:=fun σ H R=>ta σ H fun vs H1=> ∃a xs,vs=[.ref a]∧SqT K H1 a xs∧R (azq K a) H1
theorem anE{X:Cx}{e:Expr}{ta:TA}{p pos tpos:Pos}{elts:List Expr}{kk:Nat}(hg:Gl X "enumerate")(hm:X.mg "enumerate"=none)(ha:PA X [e] ta)(hs:starEach [e] X.env=[(false,eval e X.env)]:=by rfl):
  PI X (.Tuple elts kk tpos) (.Call (.Name "enumerate" p) [e] [] pos) (azr X.K ta):=by
 refine ⟨fun pins s σ H R I h=> ?_⟩
 refine Call_ (ld_blt I hg hm boot_enumerate (PyProof.Rows.callWith_type1 (thn (ha.run pos pins s σ H _ I h) fun us s1 ⟨vs,H1,I1,r1,q1⟩=> ?_) hs rfl))
 obtain ⟨a,xs,ex,hq,q⟩:=q1
 subst ex
 cases r1 with
 |cons r rr=>
  cases rr
  cases r
  obtain ⟨its,rv,p',hz⟩:=I1.tuple hq
  have hla:a<s1.heap.objs.size:=p'.lt
  have pt:s1.heap.IsTuple a its.toArray:=let ⟨o,h1,h2,n,h3⟩:=p';⟨o,h1,h2,n,h3⟩
  refine xX pt fun h' he hit hsz hk=>wpAny_pyIter_enum he ?_
  have I2:Inv X pins σ H1 { s1 with heap:=h' }:=I1.kept (t':=s1.toks) hk
  refine ⟨s1.heap.objs.size+1,[s1.heap.objs.size+1,s1.heap.objs.size],_,_,H1,rfl,I2,aeH a (s1.heap.objs.size+1) s1.heap.objs.size (Nat.ne_of_lt hla) (Nat.ne_of_lt (Nat.lt_succ_of_lt hla)),⟨⟨.none,he⟩,hit,Nat.succ_ne_self _⟩,fun b hb=> ?_,q⟩
  have e':b=s1.heap.objs.size+1∨b=s1.heap.objs.size:=by simpa using hb
  have hle:s1.heap.objs.size≤b:=by
   rcases e' with z|z
   ·rw [z];exact Nat.le_add_right _ _
   ·rw [z];exact Nat.le_refl _
  exact I1.fpOk hle (I1.hok.fresh hle)
def aDx(d:V):List Int→V
 |[]=>d
 |n::r=> .int (r.foldl min n)
def aDy(K:PySem.W.Frag)(te td:TE):TE:=fun σ H Q=>te σ H fun v H1=> ∃(l:Addr) (ns:List Int),v= .ref l∧SqL K H1 l (ns.map V.int)∧td σ H1 fun d H2=>SqL K H2 l (ns.map V.int)∧Q (aDx d ns) H2
theorem asW{X:Cx}{e d:Expr}{te td:TE}{p kpos pos:Pos}(hu:X.A.units+64<cLine)(hc:X.calm=true)(hg:Gl X "min")(hm:X.mg "min"=none)(he0:PE X e te)(hd0:PE X d td)
  (he1:starEach [e] X.env=(false,eval e X.env)::starEach [] X.env:=by rfl) (hv:bootBuiltins "min"=some (.builtin "min"):=by rfl)
  (he:backTo pos (starEach [e] X.env)=(false,eval e X.env)::backTo pos (starEach [] X.env):=by rfl) (hpl:(backTo pos (starEach [e] X.env)).any (·.1)=false:=by rfl)
  (hkw:evalAll ((backToKw pos (keywordEach [⟨some "default",d,kpos⟩] X.env)).map (·.2))=evalAll ((do let v←eval d X.env;standAt pos;pure v)::[]):=by rfl):
  PE X (.Call (.Name "min" p) [e] [⟨some "default",d,kpos⟩] pos) (aDy X.K te td):=by
 refine ⟨fun pins s σ H Q I h=> ?_⟩
 refine wpAny_Call_Name_kw (ld_blt I hg hm hv ?_ (by decide) (by decide))
 refine PyProof.Rows.callWith_kw (thn ((pa_cons (hs:=he1) he0 pa_nil).run pos pins s σ H (fun vs H1=>match vs with
  |[v]=> ∃(l:Addr) (ns:List Int),v= .ref l∧SqL X.K H1 l (ns.map V.int)∧td σ H1 fun d H2=>SqL X.K H2 l (ns.map V.int)∧Q (aDx d ns) H2
  |_=>False) I h) fun us s1 ⟨vs,H1,I1,r1,q1⟩=> ?_) he hpl rfl rfl
 cases r1 with
 |nil=>exact q1.elim
 |cons ru r'=>
  cases r' with
  |cons _ _=>exact q1.elim
  |nil=>
  obtain ⟨l,ns,rfl,hs1,q⟩:=q1
  have ru:=show _=Value.ref l from ru
  subst ru
  rw [hkw]
  refine wpAny_evalAll_cons (wpAny_bind (thn (hd0.run pins s1 σ H1 _ I1 q) fun dv s2 ⟨dV,H2,I2,rd,hs2,q2⟩=>wpAny_bind (wpAny_standAt (wpAny_pure (wpAny_evalAll_nil ?_)))))
  obtain ⟨its,rv,pl,hz⟩:=I2.list hs2
  have dpa: ∀ns:List Int,DpAll X.K H2 (ns.map V.int) (ns.map PyData.int):=fun ns=>by
   induction ns with
   |nil=>exact .nil
   |cons n ns ih=>exact .cons (.int _) ih
  have dp:=dpa ns
  obtain ⟨as,ra⟩: ∃as,ReadsAll s2.heap its (ns.map PyData.int) as:=by
   have: ∀{vs:List V} {us:List Value} {ds:List PyData},Vals vs us→DpAll X.K H2 vs ds→ ∃as,ReadsAll s2.heap us ds as:=by
    intro vs us ds h1
    induction h1 generalizing ds with
    |nil=>intro h2;cases h2;exact ⟨_, .nil⟩
    |cons a t ih=>
     intro h2
     cases h2 with
     |cons b c=>
      obtain ⟨as,g⟩:=ih c
      obtain ⟨as',g'⟩:=Dp.reads I2 _ _ _ b a
      exact ⟨_, .cons g' g⟩
   exact this rv dp
  have al:PySem.W.AlikeAll (ns.map PyData.int):=⟨fun x hx y hy=>by
   obtain ⟨a,_,rfl⟩:=List.mem_map.mp hx
   obtain ⟨b,_,rfl⟩:=List.mem_map.mp hy
   simp [PySem.W.alike],fun x hx=>by
   obtain ⟨a,_,rfl⟩:=List.mem_map.mp hx
   exact fun z=>by cases z⟩
  refine PySem.W.min_list_default (A:=X.A) (xs:=ns.map PyData.int) (I2.ok.hd hc) pl.isList (by simpa using ra) al (by rw [PySem.W.depth_ints];omega) (fun hn h' tk k=> ?_) fun y ys i v h' tk bs hy hvi hr k=> ?_
  ·have:ns=[]:=by simpa using hn
   subst this
   exact ⟨dV,H2,I2.kept (t':=tk) k,rd,q2⟩
  ·cases ns with
   |nil=>simp at hy
   |cons n ns=>
    simp only [List.map_cons,List.cons.injEq] at hy
    obtain ⟨rfl,rfl⟩:=hy
    rw [PySem.W.minD_ints] at hr
    cases hr
    exact ⟨.int _,H2,I2.kept (t':=tk) k,⟨_,rfl⟩,q2⟩
end L2
namespace DL
open PySem L2
variable[bG]
section
variable{X:Cx}{F0 H0:Hp}{e a b c tg d:Expr}{p pos kpos:Pos}
theorem azs{K:PySem.W.Frag}{F:Hp}{a:Addr}{vs:List V}{xs:List D}(s:SqL K F a vs)(r:aY K F vs xs):xG K F (Itv K a vs.length) xs.reverse where
 go:=fun H i e hi=>by
  have hl:=r.length
  rw [List.length_reverse] at hi
  refine ⟨by omega,vs,vs[vs.length - 1 - i]'(by omega),e.seq s, ?_⟩
  rw [List.getElem?_eq_getElem (by omega)]
 stop:=fun H e=>by
  show vs.length≤_
  rw [List.length_reverse,r.length];exact Nat.le_refl _
 yld:=fun F1 H i v H' x e1 e2 y hx=>by
  obtain ⟨rfl,y⟩:=y
  have hl:=r.length
  have hi:=(List.getElem?_eq_some_iff.mp hx).1
  rw [List.length_reverse] at hi
  rw [List.getElem?_reverse hi] at hx
  rw [←hl] at hx
  obtain ⟨u,hu,ru⟩:=r.getD hx
  have:=y vs (e2.seq (e1.seq s))
  rw [hu] at this
  cases this
  exact ⟨F1, .refl e2,ru.mono e1⟩
def asY(P:List D→Prop)(vs:List D):Prop:=match vs with|[.lst xs]=>P xs.reverse|_=>False
def anF(da:DA):DI:=fun ρ P=>da ρ (asY P)
theorem azt{da:DA}(hg:Gl X "reversed")(hm:X.mg "reversed"=none)(ha:LA X F0 H0 [a] da)(hs:starEach [a] X.env=[(false,eval a X.env)]:=by rfl):LI X F0 H0 tg (.Call (.Name "reversed" p) [a] [] pos) (anF da):=
 piW (pi_reversed hg hm ha hs) fun σ H R ⟨F,ρ,fps,P,E,q,k⟩=>⟨F,ρ,fps,_,E,q,fun vs hx F1 H1 us e1 r1=>by
  unfold asY at hx
  split at hx
  ·cases r1 with
   |cons r rr=>
    cases rr
    cases r with
    |lst s z r=>exact ⟨_,_,rfl,e1.w.seq s,k _ hx F1 H1 _ e1 (azs s r).toB⟩
  ·exact False.elim hx⟩
theorem anG{K:PySem.W.Frag}{F:Hp}{a:Addr}{vs:List V}{xs:List D}(s:SqT K F a vs)(r:aY K F vs xs):xG K F (azq K a) ((List.range xs.length).zip xs |>.map fun p=> .tup [.int (p.1:Nat),p.2]) where
 go:=fun H i e hi=>by
  simp at hi
  have hv:i<vs.length:=by rw [r.length];exact hi
  exact ⟨vs,vs[i],cD e s,by simp [hv]⟩
 stop:=fun H e=>⟨vs,cD e s,by rw [r.length];simp⟩
 yld:=fun F1 H i v H' x e1 e2 y hx=>by
  obtain ⟨T,u,rfl,nT,rfl,y⟩:=y
  simp only [List.getElem?_map] at hx
  cases hq:((List.range xs.length).zip xs)[i]? with
  |none=>rw [hq] at hx;cases hx
  |some p=>
   rw [hq] at hx
   cases hx
   obtain ⟨g1,g2⟩:=List.getElem?_zip_eq_some.mp hq
   obtain ⟨u',hu,ru⟩:=r.getD g2
   have:=y vs (cD e2 (cD e1 s))
   rw [hu] at this
   cases this
   have hp:p.1=i:=by
    obtain ⟨h1,h2⟩:=List.getElem?_eq_some_iff.mp g1
    simpa using h2.symm
   subst hp
   exact ⟨_, .new e2 nT,rB e2 nT (.cons (.int _) (.cons (ru.mono e1) .nil)) (by show 2≤sizeLine;decide)⟩
def asZ(P:List D→Prop)(vs:List D):Prop:=match vs with
 |[.tup xs]=>P ((List.range xs.length).zip xs |>.map fun p=> .tup [.int (p.1:Nat),p.2])
 |_=>False
def aeI(da:DA):DI:=fun ρ P=>da ρ (asZ P)
theorem anH{da:DA}{tpos:Pos}{elts:List Expr}{kk:Nat}(hg:Gl X "enumerate")(hm:X.mg "enumerate"=none)(ha:LA X F0 H0 [a] da)(hs:starEach [a] X.env=[(false,eval a X.env)]:=by rfl):
  LI X F0 H0 (.Tuple elts kk tpos) (.Call (.Name "enumerate" p) [a] [] pos) (aeI da):=
 piW (anE hg hm ha hs) fun σ H R ⟨F,ρ,fps,P,E,q,k⟩=>⟨F,ρ,fps,_,E,q,fun vs hx F1 H1 us e1 r1=>by
  unfold asZ at hx
  split at hx
  ·cases r1 with
   |cons r rr=>
    cases rr
    cases r with
    |tup s z r=>exact ⟨_,_,rfl,cD e1.w s,k _ hx F1 H1 _ e1 (anG s r).toB⟩
  ·exact False.elim hx⟩
def acP(d:D):List Int→D
 |[]=>d
 |n::r=> .int (r.foldl min n)
def azu(ns:List Int)(P:D→Prop)(d:D):Prop:=P (acP d ns)
def azv(dd:DE)(ρ:Rh)(P:D→Prop)(x:D):Prop:= ∃ns:List Int,x= .lst (ns.map .int)∧dd ρ (azu ns P)
def aeJ(da dd:DE):DE:=fun ρ P=>da ρ (azv dd ρ P)
theorem anI{da dd:DE}(hu:X.A.units+64<cLine)(hc:X.calm=true)(hg:Gl X "min")(hm:X.mg "min"=none)(ha:LB X F0 H0 e da)(hd:LE X F0 H0 d dd)
  (he1:starEach [e] X.env=(false,eval e X.env)::starEach [] X.env:=by rfl)
  (he:backTo pos (starEach [e] X.env)=(false,eval e X.env)::backTo pos (starEach [] X.env):=by rfl) (hpl:(backTo pos (starEach [e] X.env)).any (·.1)=false:=by rfl)
  (hkw:evalAll ((backToKw pos (keywordEach [⟨some "default",d,kpos⟩] X.env)).map (·.2))=evalAll ((do let v←eval d X.env;standAt pos;pure v)::[]):=by rfl):
  LE X F0 H0 (.Call (.Name "min" p) [e] [⟨some "default",d,kpos⟩] pos) (aeJ da dd):=
 peW (asW hu hc hg hm ha hd he1 rfl he hpl hkw) fun σ H Q ⟨F,ρ,fps,P,R,q,k⟩=>⟨F,ρ,fps,_,R,q,fun x hx F1 H1 v e1 r1=>by
  obtain ⟨ns,rfl,hx⟩:=hx
  obtain ⟨A,vs,rfl,s,r,z⟩:=r1.lst e1.w
  rw [r.ints] at s
  refine ⟨A,ns,rfl,s,F1,ρ,fps,_,R.ext e1,hx,fun y hy F2 H2 w e2 r2=>⟨e2.aEt s, ?_⟩⟩
  have hy:P (acP y ns):=hy
  cases ns with
  |nil=>exact k _ hy F2 H2 _ (e1.trans e2) r2
  |cons n ns=>exact k _ hy F2 H2 _ (e1.trans e2) (.int _)⟩
end
section
variable{da dd:DE}{dl:DA}{ρ:Rh}{P:D→Prop}{PL:List D→Prop}{PP:Option V→Tr→Prop}{xs:List D}{ns:List Int}{x:D}{i:Nat}{vs:List Nat}{dg:DG}{dt:DT}{ks:List (KB×D)}{o:Option V}
theorem as3:aeJ da dd ρ P=da ρ (azv dd ρ P):=id rfl
theorem azw:azv dd ρ P x=(∃ns:List Int,x= .lst (ns.map .int)∧dd ρ (azu ns P)):=id rfl
theorem azx:azu ns P x=P (acP x ns):=id rfl
theorem azy:anF dl ρ PL=dl ρ (asY PL):=id rfl
theorem azz:asY PL [.lst xs]=PL xs.reverse:=id rfl
theorem as4:aeI dl ρ PL=dl ρ (asZ PL):=id rfl
theorem azA:asZ PL [.tup xs]=PL ((List.range xs.length).zip xs |>.map fun p=> .tup [.int (p.1:Nat),p.2]):=id rfl
theorem aDz:sE1 P x=(∃bs:List En,x= .lst (bs.map b_)∧P (.lst ((acO bs).map b_))):=id rfl
theorem aDA:azm i vs dg dt da ρ P=sH i ρ (asU i vs dg dt da ρ P):=id rfl
theorem azB:asU i vs dg dt da ρ P o (.dn ks)=azl i vs dg dt da ρ P ks:=id rfl
theorem azC:azl i vs dg dt da ρ P ks=((ρ.set i .no).all Uv=true∧(o8 ks).length≤sizeLine∧ ∀x:Addr,lcD vs dg dt da (ρ.set i (.sh (.fn x))) (o8 ks) fun ys=>P (.lst ys)):=id rfl
end
theorem as5{P:Program}{w:World}{K:PySem.W.Frag}{mg:Str→Option Value}{base:Heap}{x qual:Str}{st:Stmt}{f:Addr}{fd:FuncData}{cdv:Value}{N ps:List Str}{k:Nat}{ms:List Bool}{S:jB}{d:XC→DS}(F:aex K x qual st f fd cdv)(Sc:FnScope N ps (defScope st))(hlen: ∀ds P Xc,S ds P Xc→ds.length=ps.length)
  (body: ∀(A:Around) (outer:List Env) (s:Shared) (H:Hp) (E:XK) (F0:Hp) (Xc:XC),Room k (A.deeper (PyProof.Rows.envOfC qual (defScope st) s.heap.objs.size f cdv))→ad6 K F0 H (fun cls d _ H=>E cls d H) Xc→
   LSs (cxOf (L2.CX P w) P w K mg base N qual (defScope st) f cdv A outer s H E) F0 H (defBody st) (d Xc))
  (sem: ∀ds Q Xc,S ds Q Xc→d Xc { nx:=fun _=>Q .non,rt:=Q } (lU N ms ds)):FnOk P w K mg base (L2.CX P w) (k+1) f fd ps (uv K ms S):=by
 obtain ⟨oc,od,kV,doc,pm,an,ct,osl,rfl,lk,hcd⟩:=F.ex
 refine fn_of lk hcd Sc (fun vs H Q E ⟨F,ds,P,Xc,e,r,h,_⟩=>by rw [r.length];exact hlen _ _ _ h) fun A outer s H vs Q E hr ⟨F0,ds,P,Xc,e,r,h,kk,ko⟩=> ?_
 refine ⟨_,body A outer s H E F0 Xc hr fun C g hx F' H' cls d _ e' r'=>ko C g hx F' H' cls d e' r',F0,lU N ms ds,(ds.map fun _=>([]:List Addr))++List.replicate (N.length - ds.length) [],{ nx:=fun _=>P .non,rt:=P },⟨.refl e.1, ?_, ?_,e.2⟩,sem ds P Xc h,⟨?_, ?_, ?_, ?_, ?_, ?_⟩⟩
 ·unfold L2.start lU
  rw [r.length]
  exact rF _ r
 ·exact ⟨by rw [rE];exact List.nodup_nil,fun a ha=>by rw [rE] at ha;cases ha⟩
 ·exact fun F' H' σ' ρ' fps' s R q=>kk _ q F' H' _ R.x .non
 ·exact fun F' H' σ' ρ' fps' s R q=>False.elim q
 ·exact fun F' H' σ' ρ' fps' s R q=>False.elim q
 ·exact fun F' H' v x s e' r' q=>kk _ q F' H' v e' r'
 ·exact fun F' H' v x fp s e' r' n1 n2 q=>False.elim q
 ·exact fun F' H' σ' ρ' fps' v t fp s R r n1 n2 q=>False.elim q
def uw:List D→(D→Prop)→Prop
 |[.lst xs],P=>P (.tup xs)
 |[.tup xs],P=>P (.tup xs)
 |_,_=>False
theorem za{X:Cx}:Mj X (.type "tuple") uw:=⟨_,fun F H vs xs P Q e r d k=>by
 unfold uw at d
 split at d
 ·obtain ⟨v,rfl,r1⟩:=r.one
  obtain ⟨p,vs,rfl,s,r,z⟩:=r1.lst e
  exact ⟨p,vs,rfl, .inl ⟨s,fun l hl=>k _ d _ _ _ (.new e hl) (rB e hl r z)⟩⟩
 ·obtain ⟨v,rfl,r1⟩:=r.one
  obtain ⟨p,vs,rfl,s,r,z⟩:=r1.tup e
  rcases r1 with r1|⟨fp,r1,nt⟩
  ·exact ⟨p,vs,rfl, .inr ⟨s,k _ d F H _ (.refl e) r1⟩⟩
  ·cases r1 with
   |tup=>exact nt.elim
 ·exact d.elim,call_tuple_of⟩
theorem anJ{xs:List D}{P:D→Prop}:uw [.lst xs] P=P (.tup xs):=id rfl
theorem anK{xs:List D}{P:D→Prop}:uw [.tup xs] P=P (.tup xs):=id rfl
end DL
end
section
namespace DL
open PySem L2
section
variable(P:Program)(w:World)(K:PySem.W.Frag)(mg:Str→Option Value)(base:Heap)
abbrev OkD(CX:CXT){N ps:List Str}{st:Stmt}(_:FnScope N ps (defScope st))(x q:Str)(k:Nat)(sp:Sp):Prop:= ∀{f:Addr} {fd:FuncData},Fun K x q st f fd→FnOk P w K mg base CX k f fd ps sp
abbrev cxN(N:List Str)(q:Str)(st:Stmt)(f:Addr)(cdv:Value)(A:Around)(outer:List Env)(s:Shared)(H:Hp)(E:XK):Cx:=(cxOf CX0 P w K mg base N q (defScope st) f cdv A outer s H E).nox
abbrev cxX(N:List Str)(q:Str)(st:Stmt)(f:Addr)(cdv:Value)(A:Around)(outer:List Env)(s:Shared)(H:Hp)(E:XK):Cx:=cxOf (L2.CX P w) P w K mg base N q (defScope st) f cdv A outer s H E
abbrev YG(k:Nat)(q:Str)(st:Stmt)(f:Addr)(cdv:Value)(A:Around)(s:Shared):Prop:=Room k (A.deeper (PyProof.Rows.envOfC q (defScope st) s.heap.objs.size f cdv))
end
section
variable[bG]{P:Program}{w:World}{K:PySem.W.Frag}{mg:Str→Option Value}{base:Heap}{x q:Str}{N ps:List Str}{st:Stmt}{k:Nat}{ms:List Bool}
abbrev BoP(P:Program)(w:World)(K:PySem.W.Frag)(mg:Str→Option Value)(base:Heap)(N:List Str)(q:Str)(st:Stmt)(k:Nat)(d:DS):Prop:= ∀{f:Addr} {cdv:Value} {A:Around} {outer:List Env} {s:Shared} {H:Hp} {E:XK} {F0:Hp},N.Nodup→(cxN P w K mg base N q st f cdv A outer s H E).A.units+64<cLine→(cxN P w K mg base N q st f cdv A outer s H E).A.units+65<cLine→YG k q st f cdv A s→LSs (cxN P w K mg base N q st f cdv A outer s H E) F0 H (defBody st) d
abbrev BoG(P:Program)(w:World)(K:PySem.W.Frag)(mg:Str→Option Value)(base:Heap)(N:List Str)(q:Str)(st:Stmt)(k:Nat)(d:DS):Prop:= ∀{f:Addr} {cdv:Value} {A:Around} {outer:List Env} {s:Shared} {H:Hp} {E:XK} {F0 H0:Hp},N.Nodup→(cxN P w K mg base N q st f cdv A outer s H E).A.units+64<cLine→(cxN P w K mg base N q st f cdv A outer s H E).A.units+65<cLine→YG k q st f cdv A s→LSs (cxN P w K mg base N q st f cdv A outer s H E) F0 H0 (defBody st) d
abbrev BoI(P:Program)(w:World)(K:PySem.W.Frag)(mg:Str→Option Value)(base:Heap)(N:List Str)(q:Str)(st:Stmt)(k:Nat)(C:Addr)(d:DIn):Prop:= ∀{f:Addr} {cdv:Value} {A:Around} {outer:List Env} {s:Shared} {H:Hp} {E:XK} {F0 H0:Hp} {x dx:Addr},N.Nodup→(cxN P w K mg base N q st f cdv A outer s H E).A.units+64<cLine→(cxN P w K mg base N q st f cdv A outer s H E).A.units+65<cLine→YG k q st f cdv A s→ai7 (cxN P w K mg base N q st f cdv A outer s H E) C x dx F0 H0 (defBody st) d
abbrev BoE(P:Program)(w:World)(K:PySem.W.Frag)(mg:Str→Option Value)(base:Heap)(N:List Str)(q:Str)(st:Stmt)(k:Nat)(C:Addr)(d:DIn):Prop:= ∀{f:Addr} {cdv:Value} {A:Around} {outer:List Env} {s:Shared} {H:Hp} {E:XK} {F0 H0:Hp} {x:Addr},N.Nodup→(cxN P w K mg base N q st f cdv A outer s H E).A.units+64<cLine→(cxN P w K mg base N q st f cdv A outer s H E).A.units+65<cLine→YG k q st f cdv A s→aEx (cxN P w K mg base N q st f cdv A outer s H E) C x F0 H0 (defBody st) d
abbrev BoX(P:Program)(w:World)(K:PySem.W.Frag)(mg:Str→Option Value)(base:Heap)(N:List Str)(q:Str)(st:Stmt)(k:Nat)(d:XC→DS):Prop:= ∀{f:Addr} {cdv:Value} {A:Around} {outer:List Env} {s:Shared} {H:Hp} {E:XK} {F0:Hp} {Xc:XC},N.Nodup→(cxX P w K mg base N q st f cdv A outer s H E).A.units+64<cLine→(cxX P w K mg base N q st f cdv A outer s H E).A.units+65<cLine→Takes (cxX P w K mg base N q st f cdv A outer s H E) (fun cls d _ H=>E cls d H)→YG k q st f cdv A s→ad6 K F0 H (fun cls d _ H=>E cls d H) Xc→LSs (cxX P w K mg base N q st f cdv A outer s H E) F0 H (defBody st) (d Xc)
theorem iG(Sc:FnScope N ps (defScope st)){S:bK}{d:DS}(n: ∀ds P,S ds P→ds.length=ps.length)(sem: ∀ds Q,S ds Q→d { nx:=fun _=>Q .non,rt:=Q } (bM N ds))(b:BoP P w K mg base N q st k d):OkD P w K mg base CX0 Sc x q (k+1) (bZ K S):=
 fun F=>aAr F Sc n (fun _ _ _ _ _ _ _ hr=>b Sc.nd hr.units (abu hr) hr) sem
theorem aDB(Sc:FnScope N ps (defScope st)){S:iY}{d:DS}(n: ∀xs P,S xs P→xs.length=ps.length)(sem: ∀xs Q,S xs Q→ ∀ls,(gY 0 xs).length=ls.length→d (aeh (gY 0 xs) ls Q) (xR N xs ls))(b:BoG P w K mg base N q st k d):OkD P w K mg base CX0 Sc x q (k+1) (qu K S):=
 fun F=>axk F Sc n (fun _ _ _ _ _ _ _ _ hr=>b Sc.nd hr.units (abu hr) hr) sem
theorem aaJ(Sc:FnScope N ps (defScope st)){C:Addr}{S:d9}{d:DIn}(n: ∀ds P,S ds P→ds.length+1=ps.length)(sem: ∀ds Q,S ds Q→d (.no::(ds.map Sl.sh++List.replicate (N.length - (ds.length+1)) Sl.no)) [] Q)(b:BoI P w K mg base N q st k C d):OkD P w K mg base CX0 Sc x q (k+1) (j5 K C S):=
 fun F=>apc F Sc n (fun _ _ _ _ _ _ _ _ _ _ hr=>b Sc.nd hr.units (abu hr) hr) sem
theorem azD(Sc:FnScope N ps (defScope st)){S:jB}{d:XC→DS}(n: ∀ds P Xc,S ds P Xc→ds.length=ps.length)(sem: ∀ds Q Xc,S ds Q Xc→d Xc { nx:=fun _=>Q .non,rt:=Q } (lU N ms ds))(b:BoX P w K mg base N q st k d):OkD P w K mg base (L2.CX P w) Sc x q (k+1) (uv K ms S):=
 fun F=>awA F Sc n (fun _ _ _ _ _ _ _ _ hr hE=>b Sc.nd hr.units (abu hr) (takes_of rfl rfl rfl rfl) hr hE) sem
end
section
variable(K:PySem.W.Frag)
abbrev NsA(x:Str)(a:Addr):Prop:=PySem.W.nsIn K PySem.mainGlobals x=some (some (.ref a))
abbrev FdA(C:Addr)(x:Str)(a:Addr):Prop:=PySem.W.findIn K (.ref C) x=some (some (.ref a))
abbrev FnA(x:Str)(f:Addr)(q:Str)(st:Stmt):Prop:=NsA K x f∧ ∃fd,Fun K x q st f fd
abbrev MtA(C:Addr)(x:Str)(f:Addr)(q:Str)(st:Stmt):Prop:=FdA K C x f∧PySem.W.isFn K (.ref f)=true∧ ∃fd,Fun K x q st f fd
abbrev NoG(x:Str):Prop:=PySem.W.nsIn K PySem.mainGlobals x=some none
abbrev MkA(C:Addr):Prop:=PySem.W.makesIn K C=true∧PySem.W.keepIn K (.ref C)=true
end
section
variable[bG]{P:Program}{w:World}{K:PySem.W.Frag}{mg:Str→Option Value}{base h:Heap}{x q:Str}{ps:List Str}{st:Stmt}{f:Addr}{k k2:Nat}{ms:List Bool}
abbrev BiA(x q:Str)(st:Stmt)(ps:List Str):Prop:= ∀(kV doc pm:Value) (an:Option Addr) (cdv ct:Value) (us:List Value),us.length=ps.length→bindArgs (PySem.W.fnOf x q (defArgs st) (defBody st) (defScope st) .none kV doc pm an cdv ct) ⟨us,[]⟩=pure (ps.zip us)
theorem fng{S:bK}(X:K.In h)(G:h.Ns PySem.mainGlobals mg)(e:FnA K x f q st)(ok: ∀{f fd},Fun K x q st f fd→FnOk P w K mg base CX0 k f fd ps (bZ K S))(b:BiA x q st ps):FnG P w K mg base x k S:=by
 obtain ⟨a,fd,F⟩:=e
 exact ⟨_,_,_,ok F,PySem.W.mg_of X G a,F.kp,F.binds b⟩
theorem fnx{S:jB}(X:K.In h)(G:h.Ns PySem.mainGlobals mg)(e:FnA K x f q st)(ok: ∀{f fd},Fun K x q st f fd→FnOk P w K mg base (L2.CX P w) k f fd ps (uv K ms S))(b:BiA x q st ps):FnX P w K mg base x k ms S:=by
 obtain ⟨a,fd,F⟩:=e
 exact ⟨_,_,_,ok F,PySem.W.mg_of X G a,F.kp,F.binds b⟩
theorem mth{C:Addr}{S:bK}(c:Cls K C)(a:FdA K C x f)(e:PySem.W.isFn K (.ref f)=true∧ ∃fd,Fun K x q st f fd)(ok: ∀{f fd},Fun K x q st f fd→FnOk P w K mg base CX0 k f fd ps (bZ K S))(hk:k≤k2)(b:BiA x q st ps):cM P w K mg base CX0 k2 x C S:=by
 obtain ⟨i,fd,F⟩:=e
 exact ⟨c,_,_,_,⟨a,i,F.kp⟩,(ok F).mono hk,F.binds b⟩
theorem aEX{C:Addr}{S:iY}(c:Cls K C)(a:FdA K C x f)(e:PySem.W.isFn K (.ref f)=true∧ ∃fd,Fun K x q st f fd)(ok: ∀{f fd},Fun K x q st f fd→FnOk P w K mg base CX0 k f fd ps (qu K S))(b:BiA x q st ps):agP P w K mg base x k C S:=by
 obtain ⟨i,fd,F⟩:=e
 exact ⟨c,_,_,_,⟨a,i,F.kp⟩,ok F,F.binds b⟩
theorem mkg{y:Str}{C:Addr}{S:d9}(m:MkA K C)(a:FdA K C "__init__" f)(e:PySem.W.isFn K (.ref f)=true∧ ∃fd,Fun K "__init__" q st f fd)(ok: ∀{f fd},Fun K "__init__" q st f fd→FnOk P w K mg base CX0 k f fd ps (j5 K C S))(t:mg y=some (.ref C))(b:BiA "__init__" q st ps):MkG P w K mg base y C k S:=by
 obtain ⟨i,fd,F⟩:=e
 exact ⟨_,_,_,⟨m.1,a,i,m.2⟩,ok F,t,F.binds b⟩
theorem mkt{y:Str}{C:Addr}{S:iY}(m:MkA K C)(a:FdA K C "__init__" f)(e:PySem.W.isFn K (.ref f)=true∧ ∃fd,Fun K "__init__" q st f fd)(ok: ∀{f fd},Fun K "__init__" q st f fd→FnOk P w K mg base CX0 k f fd ps (qu K S))(t:mg y=some (.ref C))(b:BiA "__init__" q st ps):MkT P w K mg base y C k S:=by
 obtain ⟨i,fd,F⟩:=e
 exact ⟨_,_,_,⟨m.1,a,i,m.2⟩,ok F,t,F.binds b⟩
end
end DL
end
section
namespace L2
open PySem PySem.Spec PyProof.Rows
def azE(x:Str):It:=
 ⟨fun i _=> ∃c,x.cps[i]? =some c,fun i H v H'=> ∃T c,v= .ref T∧H T=none∧H'=upd H T (.tup [.int (i:Nat), .str ⟨#[c]⟩])∧x.cps[i]? =some c,fun i _=>x.cps.size=i⟩
theorem aeK{P:Program}{w:World}{K:PySem.W.Frag}{elts:List Expr}{kk:Nat}{tpos:Pos}(x:Str)(t:Tok)(e it:Addr):
  Turn P w K (.Tuple elts kk tpos) (azE x) [e,it] e (fun i h=>(∃old,IsEnum h e it ((i:Nat):Int) old)∧h.IsStrIter it (strIterType x) x t i∧e≠it) where
 mem:=by simp
 obj:=fun i h st b hb=>by
  obtain ⟨⟨old,he⟩,⟨o,ho,hc,hd⟩,_⟩:=st
  have e':b=e∨b=it:=by simpa using hb
  rcases e' with z|z
  ·rw [z];exact ⟨_,he,fun v q=>nomatch q⟩
  ·rw [z];exact ⟨o,ho,fun v q=>by rw [hd] at q;cases q⟩
 keep:=fun i h h' st k=>let ⟨⟨old,he⟩,hi,hne⟩:=st;⟨⟨old,k e (by simp) _ he⟩,(let ⟨o,h1,h2⟩:=hi;⟨o,k it (by simp) _ h1,h2⟩),hne⟩
 item:=by
  intro X hP hw hK hc i pins s σ H E I hf st hg
  subst hP hw hK
  obtain ⟨⟨old,he⟩,hit,hne⟩:=st
  obtain ⟨c,hx⟩:=hg
  have hel:e<s.heap.objs.size:=Heap.lt_size he
  have hil:it<s.heap.objs.size:=by obtain ⟨_,q,_⟩:=hit;exact Heap.lt_size q
  have hlt:i<x.cps.size:=(Array.getElem?_eq_some_iff.mp hx).1
  refine wpAny_pyNext_enum_itemD (Draws.text (A:=X.A.in1) (I.ok.hd hc) it x t) he hit hlt hne (by simp [hne]) fun x' h' tk hP ho hit' hT hsz hk=> ?_
  obtain ⟨c',u,h1,rfl⟩:=hP
  rw [hx] at h1
  cases h1
  refine ⟨_,rfl,wpAny_letOwnedTupleGo_enum (s:={ s with heap:=h',toks:=tk+1 }) ho fun h'' he' sb=> ?_⟩
  have hT2:h''.get? s.heap.objs.size=some { cls:= .type "tuple",data:= .seq #[.int i tk, .str ⟨#[c]⟩ u] }:=(sb.2 _ (Nat.ne_of_gt hel)).trans hT
  have new:ObjOk X.prog X.w (upd H s.heap.objs.size (.tup [.int (i:Nat), .str ⟨#[c]⟩])) h'' s.heap.objs.size (.tup [.int (i:Nat), .str ⟨#[c]⟩]):=
   ⟨by show 2≤sizeLine;decide,[.int i tk, .str ⟨#[c]⟩ u], .cons ⟨_,rfl⟩ (.cons ⟨_,rfl⟩ .nil),⟨_,hT2,rfl,_,rfl⟩⟩
  have I1:Inv X pins σ (upd H s.heap.objs.size (.tup [.int (i:Nat), .str ⟨#[c]⟩])) { s with heap:=h'',toks:=tk+1 }:=
   I.turnedNew (ch:=[e,it]) (fun b ob hb q=>(sb.2 b (fun z=>hb (by simp [z]))).trans (hk b ob (fun z=>hb (by simp [z])) (fun z=>hb (by simp [z])) q)) hf (Nat.le_refl _) new
  refine ⟨.ref s.heap.objs.size,_,I1,rfl,⟨_,c,rfl,I.hok.fresh (Nat.le_refl _),rfl,hx⟩,⟨⟨.str ⟨#[c]⟩ u, ?_⟩,(let ⟨o,h1,h2⟩:=hit';⟨o,(sb.2 it (Ne.symm hne)).trans h1,h2⟩),hne⟩,fun b hb=> ?_⟩
  ·have e1:((i+1:Nat):Int)=(i:Int)+1:=by omega
   rw [e1];exact he'
  ·have hb':b<s.heap.objs.size:=by
    have e':b=e∨b=it:=by simpa using hb
    rcases e' with z|z
    ·rw [z];exact hel
    ·rw [z];exact hil
   rw [upd_ne (Nat.ne_of_lt hb')]
   exact (hf b hb).1
 done:=by
  intro X hP hw hK hc i pins s σ H E I hf st hg
  subst hP hw hK
  obtain ⟨⟨old,he⟩,hit,hne⟩:=st
  have hx:x.cps.size=i:=hg
  subst hx
  obtain ⟨f0,f1,f2,f3,f4,f5⟩:=hf it (by simp)
  have hT:s.TypeIs (.ref e) "enumerate":=⟨_,he,rfl⟩
  unfold pyNext
  refine wpAny_bind (wpAny_attempt (wpAny_callSpecial?_slot (name:=Str.ofString "__next__") hT F.slot_enumerate_next
   (wpAny_call_entry F.slot_enumerate_next hT F.entry_enumerate_next ?_ (F.args_enumerate_next_1 _))))
  show wpAny _ _ (field (.ref e) 2>>=_) _ _ _
  refine wpAny_bind (wpAny_field he rfl (x:= .ref it) rfl ?_)
  refine wpAny_bind ((Draws.text (prog:=X.prog) (w:=X.w) (A:=X.A.in1) (I.ok.hd hc) it x t).done s _ _ hit fun h' x he' hx'=> ?_)
  obtain ⟨o,ho,hc⟩:=hx'
  refine wpAny_bind (wpAny_isInstance (T:="StopIteration") (b:=true) ⟨o,ho,hc⟩ isSubtype_stop ?_)
  exact wpAny_pure ⟨rfl,I.turned (t':=s.toks) (fun b o hb q=>he' b o hb q) f0 f1 f3 f4 f5⟩
 self:=fun A i s Q E st h=>let ⟨⟨_,he⟩,_⟩:=st;wpAny_pyIter_enum he h
theorem zG{prog:Program}{w:World}{A:Around}{E:Value→Shared→Prop}{s:Shared}(x:Str)(t:Tok){Q:Value→Shared→Prop}
  (h: ∀h',IsEnum h' (s.heap.objs.size+1) s.heap.objs.size 0 .none→h'.IsStrIter s.heap.objs.size (strIterType x) x t 0→h'.objs.size=s.heap.objs.size+2→
   (∀b o,s.heap.get? b=some o→h'.get? b=some o)→Q (.ref (s.heap.objs.size+1)) { s with heap:=h' }):
  wpAny (model prog w) A (call (.type "enumerate") [.str x t]) Q E s:=by
 refine callType_new F.called_enumerate (by decide) (F.typeCall_enumerate_1 _) (F.newCall_enumerate_1 _) (fun obj=>F.args_object_init_2 obj _) F.entry_enumerate_new
  (pQ (begins_text x t)) ⟨trivial, ?_⟩
 have hz:(s.heap.push { cls:= .type (strIterType x),data:= .fields #[.str x t, .int 0 0] }).objs.size=s.heap.objs.size+1:=Heap.size_push ..
 show _∧_
 rw [hz]
 have he:IsEnum ((s.heap.push { cls:= .type (strIterType x),data:= .fields #[.str x t, .int 0 0] }).push
   { cls:= .type "enumerate",data:= .fields #[.none, .bool false, .ref s.heap.objs.size,rawInt 0, .none, .none] }) (s.heap.objs.size+1) s.heap.objs.size 0 .none:=by
  have:=Heap.get?_push_size (s.heap.push { cls:= .type (strIterType x),data:= .fields #[.str x t, .int 0 0] })
   (o:={ cls:= .type "enumerate",data:= .fields #[.none, .bool false, .ref s.heap.objs.size,rawInt 0, .none, .none] }) rfl
  rw [hz] at this;exact this
 refine ⟨⟨_,he,rfl⟩,h _ he ⟨_,Heap.get?_push_of_some _ (Heap.get?_push_size _ rfl),rfl,rfl⟩ (by rw [Heap.size_push,hz]) fun b o y=>Heap.get?_push_of_some _ (Heap.get?_push_of_some _ y)⟩
def azF(K:PySem.W.Frag)(ta:TA):TI:=fun σ H R=>ta σ H fun vs H1=> ∃x,vs=[.str x]∧R (azE x) H1
theorem anL{X:Cx}{e:Expr}{ta:TA}{p pos tpos:Pos}{elts:List Expr}{kk:Nat}(hg:Gl X "enumerate")(hm:X.mg "enumerate"=none)(ha:PA X [e] ta)(hs:starEach [e] X.env=[(false,eval e X.env)]:=by rfl):
  PI X (.Tuple elts kk tpos) (.Call (.Name "enumerate" p) [e] [] pos) (azF X.K ta):=by
 refine ⟨fun pins s σ H R I h=> ?_⟩
 refine Call_ (ld_blt I hg hm boot_enumerate (PyProof.Rows.callWith_type1 (thn (ha.run pos pins s σ H _ I h) fun us s1 ⟨vs,H1,I1,r1,q1⟩=> ?_) hs rfl))
 obtain ⟨x,ex,q⟩:=q1
 subst ex
 cases r1 with
 |cons r rr=>
  cases rr
  obtain ⟨t,rfl⟩:=r
  refine zG x t fun h' he hit hsz hk=>wpAny_pyIter_enum he ?_
  have I2:Inv X pins σ H1 { s1 with heap:=h' }:=I1.kept (t':=s1.toks) hk
  refine ⟨s1.heap.objs.size+1,[s1.heap.objs.size+1,s1.heap.objs.size],_,_,H1,rfl,I2,aeK x t (s1.heap.objs.size+1) s1.heap.objs.size,⟨⟨.none,he⟩,hit,Nat.succ_ne_self _⟩,fun b hb=> ?_,q⟩
  have e':b=s1.heap.objs.size+1∨b=s1.heap.objs.size:=by simpa using hb
  have hle:s1.heap.objs.size≤b:=by
   rcases e' with z|z
   ·rw [z];exact Nat.le_add_right _ _
   ·rw [z];exact Nat.le_refl _
  exact I1.fpOk hle (I1.hok.fresh hle)
end L2
namespace DL
open PySem L2
variable[bG]
section
variable{X:Cx}{F0 H0:Hp}{e a b c tg d o:Expr}{p pos kpos:Pos}
theorem anM{K:PySem.W.Frag}{F:Hp}{z:Tx}(ok:oF z=true):xG K F (azE (aZ z)) ((List.range z.length).zip (eO z) |>.map fun p=> .tup [.int (p.1:Nat),p.2]) where
 go:=fun H i e hi=>by
  simp [eO] at hi
  exact ⟨z[i],by simp [aZ,hi]⟩
 stop:=fun H e=>by
  show (aZ z).cps.size=_
  simp [aZ,eO]
 yld:=fun F1 H i v H' x e1 e2 y hx=>by
  obtain ⟨T,c,rfl,nT,rfl,y⟩:=y
  simp only [List.getElem?_map] at hx
  cases hq:((List.range z.length).zip (eO z))[i]? with
  |none=>rw [hq] at hx;cases hx
  |some p=>
   rw [hq] at hx
   cases hx
   obtain ⟨g1,g2⟩:=List.getElem?_zip_eq_some.mp hq
   have hc:z[i]? =some c:=by simpa [aZ] using y
   have hp:p.1=i:=by
    obtain ⟨h1,h2⟩:=List.getElem?_eq_some_iff.mp g1
    simpa using h2.symm
   have hp2:p.2= .str [c]:=by
    simp [eO,hc] at g2
    exact g2.symm
   subst hp
   dsimp only
   rw [hp2]
   exact ⟨_, .new e2 nT,rB e2 nT (.cons (.int _) (.cons (.str [c] (by show 1≤sizeLine;decide) (CJ ok (List.mem_of_getElem? hc))) .nil)) (by show 2≤sizeLine;decide)⟩
def as6(P:List D→Prop)(vs:List D):Prop:=match vs with
 |[.str z]=>P ((List.range z.length).zip (eO z) |>.map fun p=> .tup [.int (p.1:Nat),p.2])
 |_=>False
def aeL(da:DA):DI:=fun ρ P=>da ρ (as6 P)
theorem anN{da:DA}{tpos:Pos}{elts:List Expr}{kk:Nat}(hg:Gl X "enumerate")(hm:X.mg "enumerate"=none)(ha:LA X F0 H0 [a] da)(hs:starEach [a] X.env=[(false,eval a X.env)]:=by rfl):
  LI X F0 H0 (.Tuple elts kk tpos) (.Call (.Name "enumerate" p) [a] [] pos) (aeL da):=
 piW (anL hg hm ha hs) fun σ H R ⟨F,ρ,fps,P,E,q,k⟩=>⟨F,ρ,fps,_,E,q,fun vs hx F1 H1 us e1 r1=>by
  unfold as6 at hx
  split at hx
  ·cases r1 with
   |cons r rr=>
    cases rr
    cases r with
    |str x h1 h2=>exact ⟨_,rfl,k _ hx F1 H1 _ e1 (anM h2).toB⟩
  ·exact False.elim hx⟩
def aFM(i:Nat)(di de:DE):DS:=fun E ρ=>de ρ fun y=>match ρ[i]? with|some (.ow (.lst xs))=>di ρ fun k=>(match k with| .int k=>(k<0∧0≤k+xs.length)∧E.nx (ρ.set i (.ow (.lst (xs.set (k+xs.length).toNat y))))|_=>False)|_=>False
end
def aDC(i:Nat)(xs:List D)(y:D)(E:DEn)(ρ:Rh)(k:D):Prop:=match k with| .int k=>(k<0∧0≤k+xs.length)∧E.nx (ρ.set i (.ow (.lst (xs.set (k+xs.length).toNat y))))|_=>False
def aFh(i:Nat)(di:DE)(E:DEn)(ρ:Rh)(y:D):Prop:=match ρ[i]? with|some (.ow (.lst xs))=>di ρ (aDC i xs y E ρ)|_=>False
section
variable{dl:DA}{ρ:Rh}{PL:List D→Prop}{z:Tx}
theorem as7:aeL dl ρ PL=dl ρ (as6 PL):=id rfl
theorem azG:as6 PL [.str z]=PL ((List.range z.length).zip (eO z) |>.map fun p=> .tup [.int (p.1:Nat),p.2]):=id rfl
end
end DL
end
section
set_option maxHeartbeats 0
namespace K67
open PySem L2 DL
def top(i:Nat):Stmt:=PySem.Challenge.pw_rotafair_k67_columns_too_wide.main.body.getD i (.Pass ⟨0,0,0,0⟩)
abbrev uI:Stmt:=inClass (top 12) 0
abbrev wG:Stmt:=inClass (top 12) 1
abbrev pU:Stmt:=inClass (top 13) 1
abbrev qL:Stmt:=inClass (top 13) 2
abbrev nM:Stmt:=inClass (top 14) 0
abbrev oH:Stmt:=inClass (top 14) 1
abbrev jX:Stmt:=inClass (top 15) 0
abbrev oJ:Stmt:=inClass (top 15) 1
abbrev xY:Stmt:=top 18
abbrev xZ:Stmt:=top 19
abbrev ux:Stmt:=top 21
abbrev Xy:Stmt:=inClass (top 26) 0
abbrev uJ:Stmt:=inClass (top 28) 0
abbrev rR:Stmt:=inClass (top 29) 0
abbrev anO:Stmt:=top 31
abbrev YH:Stmt:=top 32
abbrev uK:Stmt:=inClass (top 34) 0
abbrev zX:Stmt:=inClass (top 34) 1
abbrev pD:Stmt:=top 39
abbrev zY:Stmt:=top 43
abbrev ag1:Stmt:=top 44
abbrev qw:Stmt:=inClass (top 45) 0
abbrev tH:Stmt:=top 47
abbrev tK:Stmt:=inClass (top 50) 0
abbrev uL:Stmt:=inClass (top 51) 0
abbrev Fx:Stmt:=inClass (top 51) 1
abbrev uM:Stmt:=inClass (top 51) 3
abbrev tL:Stmt:=inClass (top 51) 4
abbrev Ld:Stmt:=top 53
abbrev JW:Stmt:=top 54
abbrev JX:Stmt:=top 55
abbrev aaK:Stmt:=top 56
abbrev x_:Stmt:=top 58
abbrev Fy:Stmt:=top 8
abbrev FJ:Stmt:=top 9
abbrev iZ:Stmt:=inClass (top 13) 0
abbrev U3:Stmt:=top 16
abbrev uz:Stmt:=top 20
abbrev z7:Stmt:=top 23
abbrev Le:Stmt:=inClass (top 34) 2
abbrev U4:Stmt:=inClass (top 37) 1
abbrev anP:Stmt:=top 40
abbrev ag3:Stmt:=top 42
abbrev Lf:Stmt:=inClass (top 51) 2
abbrev o9:Stmt:=inClass (top 51) 5
abbrev Lg:Stmt:=inClass (top 37) 1
abbrev uN:Stmt:=top 10
abbrev z8:Stmt:=top 22
abbrev qC:Stmt:=inClass (top 37) 0
abbrev Lh:Stmt:=inClass (top 37) 2
abbrev JZ:Stmt:=top 60
abbrev acQ:Stmt:=top 24
abbrev z9:Stmt:=inClass (top 37) 3
abbrev J5:Stmt:=top 57
abbrev BL:Stmt:=top 38
abbrev Qc:Stmt:=top 41
abbrev nO:Stmt:=inClass (top 45) 1
abbrev uA:Stmt:=top 46
abbrev vX:Stmt:=inClass (top 45) 2
abbrev cA:Stmt:=top 48
abbrev U5:Stmt:=inClass (top 28) 1
abbrev J8:Stmt:=inClass (top 29) 1
abbrev Lj:Stmt:=top 59
abbrev lW:Stmt:=top 61
abbrev yc:Stmt:=top 62
structure Ad where
 cRotaError:Addr
 cNoName:Addr
 cTooWide:Addr
 cFaulty:Addr
 cCosts:Addr
 cEvenCosts:Addr
 cChangeCosts:Addr
 cLevelCosts:Addr
 cPaper:Addr
 cAnswer:Addr
 cFound:Addr
 cWithout:Addr
 cRule:Addr
 cNever:Addr
 cHand:Addr
 cBook:Addr
 cPerson:Addr
 cHouse:Addr
def aaL(A:Ad):Kin:=[(A.cFound,A.cFound,true),(A.cFound,A.cWithout,false),(A.cWithout,A.cFound,false),(A.cWithout,A.cWithout,true),(A.cBook,A.cFound,false),(A.cBook,A.cWithout,false)]
def d_(A:Ad):List Addr:=[A.cTooWide]
def kW(A:Ad):List Addr:=[A.cTooWide]
def aeM(A:Ad):Kin:=[(A.cTooWide,A.cFaulty,false),(A.cTooWide,A.cTooWide,true)]
def anQ(A:Ad):acp:=[(A.cTooWide,"ValueError",true)]
structure Txt(K:PySem.W.Frag)(mg:Str→Option Value)(A:Ad):Prop where
 g_all:mg "all"=none
 g_enumerate:mg "enumerate"=none
 g_int:mg "int"=none
 g_isinstance:mg "isinstance"=none
 g_len:mg "len"=none
 g_list:mg "list"=none
 g_max:mg "max"=none
 g_min:mg "min"=none
 g_range:mg "range"=none
 g_reversed:mg "reversed"=none
 g_sorted:mg "sorted"=none
 g_tuple:mg "tuple"=none
 g_zip:mg "zip"=none
 m_RotaError:mg "RotaError"=some (.ref A.cRotaError)
 m_NoName:mg "NoName"=some (.ref A.cNoName)
 m_TooWide:mg "TooWide"=some (.ref A.cTooWide)
 m_Faulty:mg "Faulty"=some (.ref A.cFaulty)
 m_Costs:mg "Costs"=some (.ref A.cCosts)
 m_EvenCosts:mg "EvenCosts"=some (.ref A.cEvenCosts)
 m_ChangeCosts:mg "ChangeCosts"=some (.ref A.cChangeCosts)
 m_LevelCosts:mg "LevelCosts"=some (.ref A.cLevelCosts)
 m_Paper:mg "Paper"=some (.ref A.cPaper)
 m_Answer:mg "Answer"=some (.ref A.cAnswer)
 m_Found:mg "Found"=some (.ref A.cFound)
 m_Without:mg "Without"=some (.ref A.cWithout)
 m_Rule:mg "Rule"=some (.ref A.cRule)
 m_Never:mg "Never"=some (.ref A.cNever)
 m_Hand:mg "Hand"=some (.ref A.cHand)
 m_Book:mg "Book"=some (.ref A.cBook)
 m_Person:mg "Person"=some (.ref A.cPerson)
 m_House:mg "House"=some (.ref A.cHouse)
 cl_Book:Cls K A.cBook
 cl_ChangeCosts:Cls K A.cChangeCosts
 cl_Costs:Cls K A.cCosts
 cl_EvenCosts:Cls K A.cEvenCosts
 cl_Found:Cls K A.cFound
 cl_Hand:Cls K A.cHand
 cl_House:Cls K A.cHouse
 cl_LevelCosts:Cls K A.cLevelCosts
 cl_Never:Cls K A.cNever
 cl_Paper:Cls K A.cPaper
 cl_Person:Cls K A.cPerson
 cl_Without:Cls K A.cWithout
 n_Hand_begin:NoAttr K A.cHand "begin"
 n_EvenCosts_carried:NoAttr K A.cEvenCosts "carried"
 n_LevelCosts_carried:NoAttr K A.cLevelCosts "carried"
 n_Person_carried:NoAttr K A.cPerson "carried"
 n_House_days:NoAttr K A.cHouse "days"
 n_Hand_kept:NoAttr K A.cHand "kept"
 n_House_kinds:NoAttr K A.cHouse "kinds"
 n_House_leave:NoAttr K A.cHouse "leave"
 n_LevelCosts_level:NoAttr K A.cLevelCosts "level"
 n_Hand_most:NoAttr K A.cHand "most"
 n_Person_most:NoAttr K A.cPerson "most"
 n_Person_name:NoAttr K A.cPerson "name"
 n_House_needs:NoAttr K A.cHouse "needs"
 n_Book_pages:NoAttr K A.cBook "pages"
 n_House_pairs:NoAttr K A.cHouse "pairs"
 n_Found_paper:NoAttr K A.cFound "paper"
 n_Without_paper:NoAttr K A.cWithout "paper"
 n_Person_past:NoAttr K A.cPerson "past"
 n_House_persons:NoAttr K A.cHouse "persons"
 n_ChangeCosts_rota:NoAttr K A.cChangeCosts "rota"
 n_Found_rota:NoAttr K A.cFound "rota"
 n_Hand_rules:NoAttr K A.cHand "rules"
 n_House_rules:NoAttr K A.cHouse "rules"
 n_Person_skills:NoAttr K A.cPerson "skills"
 n_Found_total:NoAttr K A.cFound "total"
 n_EvenCosts_weight:NoAttr K A.cEvenCosts "weight"
 n_EvenCosts_wishes:NoAttr K A.cEvenCosts "wishes"
 n_House_wishes:NoAttr K A.cHouse "wishes"
 n_Never_word:NoAttr K A.cNever "word"
 k_MOST_ENTRIES: ∃t,mg "MOST_ENTRIES"=some (.int 300 t)
 k_MOST_WAYS: ∃t,mg "MOST_WAYS"=some (.int 256 t)
 kin:akQ K (aaL A)
 x_TooWide:aBR K mg "TooWide" A.cTooWide
 xm_RotaError:JN K (.ref A.cRotaError) (d_ A)
 xm_TooWide:JN K (.ref A.cTooWide) (kW A)
 kx:ap7 K (aeM A)
 kb:ap8 K (anQ A)
 ec: ∀C,C∈d_ A→ExcC K C
theorem Txt.ag4{K:PySem.W.Frag}{mg:Str→Option Value}{A:Ad}(T:Txt K mg A): ∀C,(fun C=>C∈([A.cHand]:List Addr)) C→Cls K C∧NoAttr K C "begin":=by
 intro C h
 simp only [List.mem_cons,List.not_mem_nil,or_false] at h
 rcases h with rfl
 ·exact ⟨T.cl_Hand,T.n_Hand_begin⟩
theorem Txt.uO{K:PySem.W.Frag}{mg:Str→Option Value}{A:Ad}(T:Txt K mg A): ∀C,(fun C=>C∈([A.cEvenCosts,A.cLevelCosts,A.cPerson]:List Addr)) C→Cls K C∧NoAttr K C "carried":=by
 intro C h
 simp only [List.mem_cons,List.not_mem_nil,or_false] at h
 rcases h with rfl|rfl|rfl
 ·exact ⟨T.cl_EvenCosts,T.n_EvenCosts_carried⟩
 ·exact ⟨T.cl_LevelCosts,T.n_LevelCosts_carried⟩
 ·exact ⟨T.cl_Person,T.n_Person_carried⟩
theorem Txt.BP{K:PySem.W.Frag}{mg:Str→Option Value}{A:Ad}(T:Txt K mg A): ∀C,(fun C=>C∈([A.cHouse]:List Addr)) C→Cls K C∧NoAttr K C "days":=by
 intro C h
 simp only [List.mem_cons,List.not_mem_nil,or_false] at h
 rcases h with rfl
 ·exact ⟨T.cl_House,T.n_House_days⟩
theorem Txt.aeN{K:PySem.W.Frag}{mg:Str→Option Value}{A:Ad}(T:Txt K mg A): ∀C,(fun C=>C∈([A.cHand]:List Addr)) C→Cls K C∧NoAttr K C "kept":=by
 intro C h
 simp only [List.mem_cons,List.not_mem_nil,or_false] at h
 rcases h with rfl
 ·exact ⟨T.cl_Hand,T.n_Hand_kept⟩
theorem Txt.aaM{K:PySem.W.Frag}{mg:Str→Option Value}{A:Ad}(T:Txt K mg A): ∀C,(fun C=>C∈([A.cHouse]:List Addr)) C→Cls K C∧NoAttr K C "kinds":=by
 intro C h
 simp only [List.mem_cons,List.not_mem_nil,or_false] at h
 rcases h with rfl
 ·exact ⟨T.cl_House,T.n_House_kinds⟩
theorem Txt.aaN{K:PySem.W.Frag}{mg:Str→Option Value}{A:Ad}(T:Txt K mg A): ∀C,(fun C=>C∈([A.cHouse]:List Addr)) C→Cls K C∧NoAttr K C "leave":=by
 intro C h
 simp only [List.mem_cons,List.not_mem_nil,or_false] at h
 rcases h with rfl
 ·exact ⟨T.cl_House,T.n_House_leave⟩
theorem Txt.as8{K:PySem.W.Frag}{mg:Str→Option Value}{A:Ad}(T:Txt K mg A): ∀C,(fun C=>C∈([A.cLevelCosts]:List Addr)) C→Cls K C∧NoAttr K C "level":=by
 intro C h
 simp only [List.mem_cons,List.not_mem_nil,or_false] at h
 rcases h with rfl
 ·exact ⟨T.cl_LevelCosts,T.n_LevelCosts_level⟩
theorem Txt.aaO{K:PySem.W.Frag}{mg:Str→Option Value}{A:Ad}(T:Txt K mg A): ∀C,(fun C=>C∈([A.cHand,A.cPerson]:List Addr)) C→Cls K C∧NoAttr K C "most":=by
 intro C h
 simp only [List.mem_cons,List.not_mem_nil,or_false] at h
 rcases h with rfl|rfl
 ·exact ⟨T.cl_Hand,T.n_Hand_most⟩
 ·exact ⟨T.cl_Person,T.n_Person_most⟩
theorem Txt.yd{K:PySem.W.Frag}{mg:Str→Option Value}{A:Ad}(T:Txt K mg A): ∀C,(fun C=>C∈([A.cPerson]:List Addr)) C→Cls K C∧NoAttr K C "name":=by
 intro C h
 simp only [List.mem_cons,List.not_mem_nil,or_false] at h
 rcases h with rfl
 ·exact ⟨T.cl_Person,T.n_Person_name⟩
theorem Txt.ag5{K:PySem.W.Frag}{mg:Str→Option Value}{A:Ad}(T:Txt K mg A): ∀C,(fun C=>C∈([A.cHouse]:List Addr)) C→Cls K C∧NoAttr K C "needs":=by
 intro C h
 simp only [List.mem_cons,List.not_mem_nil,or_false] at h
 rcases h with rfl
 ·exact ⟨T.cl_House,T.n_House_needs⟩
theorem Txt.vY{K:PySem.W.Frag}{mg:Str→Option Value}{A:Ad}(T:Txt K mg A): ∀C,(fun C=>C∈([A.cBook]:List Addr)) C→Cls K C∧NoAttr K C "pages":=by
 intro C h
 simp only [List.mem_cons,List.not_mem_nil,or_false] at h
 rcases h with rfl
 ·exact ⟨T.cl_Book,T.n_Book_pages⟩
theorem Txt.aaP{K:PySem.W.Frag}{mg:Str→Option Value}{A:Ad}(T:Txt K mg A): ∀C,(fun C=>C∈([A.cHouse]:List Addr)) C→Cls K C∧NoAttr K C "pairs":=by
 intro C h
 simp only [List.mem_cons,List.not_mem_nil,or_false] at h
 rcases h with rfl
 ·exact ⟨T.cl_House,T.n_House_pairs⟩
theorem Txt.as9{K:PySem.W.Frag}{mg:Str→Option Value}{A:Ad}(T:Txt K mg A): ∀C,(fun C=>C∈([A.cFound,A.cWithout]:List Addr)) C→Cls K C∧NoAttr K C "paper":=by
 intro C h
 simp only [List.mem_cons,List.not_mem_nil,or_false] at h
 rcases h with rfl|rfl
 ·exact ⟨T.cl_Found,T.n_Found_paper⟩
 ·exact ⟨T.cl_Without,T.n_Without_paper⟩
theorem Txt.aeO{K:PySem.W.Frag}{mg:Str→Option Value}{A:Ad}(T:Txt K mg A): ∀C,(fun C=>C∈([A.cPerson]:List Addr)) C→Cls K C∧NoAttr K C "past":=by
 intro C h
 simp only [List.mem_cons,List.not_mem_nil,or_false] at h
 rcases h with rfl
 ·exact ⟨T.cl_Person,T.n_Person_past⟩
theorem Txt.dI{K:PySem.W.Frag}{mg:Str→Option Value}{A:Ad}(T:Txt K mg A): ∀C,(fun C=>C∈([A.cHouse]:List Addr)) C→Cls K C∧NoAttr K C "persons":=by
 intro C h
 simp only [List.mem_cons,List.not_mem_nil,or_false] at h
 rcases h with rfl
 ·exact ⟨T.cl_House,T.n_House_persons⟩
theorem Txt.aeP{K:PySem.W.Frag}{mg:Str→Option Value}{A:Ad}(T:Txt K mg A): ∀C,(fun C=>C∈([A.cChangeCosts,A.cFound]:List Addr)) C→Cls K C∧NoAttr K C "rota":=by
 intro C h
 simp only [List.mem_cons,List.not_mem_nil,or_false] at h
 rcases h with rfl|rfl
 ·exact ⟨T.cl_ChangeCosts,T.n_ChangeCosts_rota⟩
 ·exact ⟨T.cl_Found,T.n_Found_rota⟩
theorem Txt.Qe{K:PySem.W.Frag}{mg:Str→Option Value}{A:Ad}(T:Txt K mg A): ∀C,(fun C=>C∈([A.cHand,A.cHouse]:List Addr)) C→Cls K C∧NoAttr K C "rules":=by
 intro C h
 simp only [List.mem_cons,List.not_mem_nil,or_false] at h
 rcases h with rfl|rfl
 ·exact ⟨T.cl_Hand,T.n_Hand_rules⟩
 ·exact ⟨T.cl_House,T.n_House_rules⟩
theorem Txt.acR{K:PySem.W.Frag}{mg:Str→Option Value}{A:Ad}(T:Txt K mg A): ∀C,(fun C=>C∈([A.cPerson]:List Addr)) C→Cls K C∧NoAttr K C "skills":=by
 intro C h
 simp only [List.mem_cons,List.not_mem_nil,or_false] at h
 rcases h with rfl
 ·exact ⟨T.cl_Person,T.n_Person_skills⟩
theorem Txt.f_total{K:PySem.W.Frag}{mg:Str→Option Value}{A:Ad}(T:Txt K mg A): ∀C,(fun C=>C∈([A.cFound]:List Addr)) C→Cls K C∧NoAttr K C "total":=by
 intro C h
 simp only [List.mem_cons,List.not_mem_nil,or_false] at h
 rcases h with rfl
 ·exact ⟨T.cl_Found,T.n_Found_total⟩
theorem Txt.anR{K:PySem.W.Frag}{mg:Str→Option Value}{A:Ad}(T:Txt K mg A): ∀C,(fun C=>C∈([A.cEvenCosts]:List Addr)) C→Cls K C∧NoAttr K C "weight":=by
 intro C h
 simp only [List.mem_cons,List.not_mem_nil,or_false] at h
 rcases h with rfl
 ·exact ⟨T.cl_EvenCosts,T.n_EvenCosts_weight⟩
theorem Txt.U6{K:PySem.W.Frag}{mg:Str→Option Value}{A:Ad}(T:Txt K mg A): ∀C,(fun C=>C∈([A.cEvenCosts,A.cHouse]:List Addr)) C→Cls K C∧NoAttr K C "wishes":=by
 intro C h
 simp only [List.mem_cons,List.not_mem_nil,or_false] at h
 rcases h with rfl|rfl
 ·exact ⟨T.cl_EvenCosts,T.n_EvenCosts_wishes⟩
 ·exact ⟨T.cl_House,T.n_House_wishes⟩
theorem Txt.aaQ{K:PySem.W.Frag}{mg:Str→Option Value}{A:Ad}(T:Txt K mg A): ∀C,(fun C=>C∈([A.cNever]:List Addr)) C→Cls K C∧NoAttr K C "word":=by
 intro C h
 simp only [List.mem_cons,List.not_mem_nil,or_false] at h
 rcases h with rfl
 ·exact ⟨T.cl_Never,T.n_Never_word⟩
end K67
end
section
namespace K67
open PySem L2 DL
structure i_ where
 name:Tx
 skills:Tx
 most:Int
 carried:Int
 past:Tx
def iK(l:List Int):D:= .lst (l.map D.int)
def cR(l:List Tx):D:= .lst (l.map D.str)
def eU(A:Ad)(p:i_):D:= .obj A.cPerson [("name", .str p.name),("skills", .str p.skills),("most", .int p.most),("carried", .int p.carried),("past", .str p.past)]
def bA(A:Ad)(d:Int)(ks:Tx)(ns:List D)(ps:List i_)(lv ws rs pr:List D):D:=
 .obj A.cHouse [("days", .int d),("kinds", .str ks),("needs", .lst ns),("persons", .lst (ps.map (eU A))),("leave", .lst lv),("wishes", .lst ws),("rules", .lst rs),("pairs", .lst pr)]
structure vZ where
 d:Int
 k:Nat
 lo:Int
 hi:Int
def lN(n:vZ):D:= .tup [.int n.d, .str [n.k], .int n.lo, .int n.hi]
def jC(p:Tx×Int):D:= .tup [.str p.1, .int p.2]
def cH(l:List vZ)(d:Int)(k:Nat):Int×Int:=match l.find? (fun n=>decide (n.d=d)&&decide (n.k=k)) with|some n=>(n.lo,n.hi)|none=>(0,0)
def acS(l:List vZ)(ks:Tx)(d:Int):Tx:=ks.filter fun k=>decide (0<(cH l d k).2)
def Ov(ks:Tx)(l:List vZ)(p:i_)(lv:List (Tx×Int))(d:Int):Tx:=
 if lv.any (fun q=>decide (q=(p.name,d))) then [] else (acS l ks d).filter fun k=>decide (k∈p.skills)
def pW(A:Ad):d9:=fun ds P=>match ds with|[a,b,c,d,e]=>P [("name",a),("skills",b),("most",c),("carried",d),("past",e)]|_=>False
def pF(A:Ad):d9:=fun ds P=>match ds with|[a,b, .lst c, .lst d, .lst e, .lst f, .lst g, .lst h]=>P [("days",a),("kinds",b),("needs", .lst c),("persons", .lst d),("leave", .lst e),("wishes", .lst f),("rules", .lst g),("pairs", .lst h)]|_=>False
structure Xz where
 p:Nat
 d:Int
 ms:Tx
def acT(ps:List i_)(w:Xz):D:= .tup [.str ((ps.map (·.name)).getD w.p []), .int w.d, .str w.ms]
def acU(w:Xz):D:= .tup [.int w.p, .int w.d, .str w.ms]
def aaR(ps:List i_):Prop:=ps.length≤100∧ ∀i j,i<ps.length→j<ps.length→(ps.map (·.name)).getD i []=(ps.map (·.name)).getD j []→i=j
def big(c:Int):Prop:=0≤c∧c<10 ^ 40
def aeQ(p d:Int)(c:Nat)(w:Xz):Bool:=decide ((w.p:Int)=p)&&(decide (w.d=d)&& !decide (c∈w.ms))
def acV(ws:List Xz)(p d:Int)(c:Nat):Int:=((ws.filter (aeQ p d c)).length:Nat)
def Lk(A:Ad)(cs:List Int)(wt:Int)(ws:List Xz):D:= .obj A.cEvenCosts [("carried",iK cs),("weight", .int wt),("wishes", .lst (ws.map acU))]
def Qg(A:Ad)(rows:List Tx):D:= .obj A.cChangeCosts [("rota",cR rows)]
def aaS(A:Ad)(cs:List Int)(l:Int):D:= .obj A.cLevelCosts [("carried",iK cs),("level", .int l)]
def aDD(A:Ad):D:= .obj A.cCosts []
inductive fD where
 |base|even (cs:List Int) (wt:Int) (ws:List Xz)|change (rows:List Tx)|level (cs:List Int) (l:Int)
def eV(A:Ad):fD→D
 | .base=>aDD A
 | .even cs wt ws=>Lk A cs wt ws
 | .change rows=>Qg A rows
 | .level cs l=>aaS A cs l
def qD:fD→Int→Int→Int
 | .base,_,_=>0
 | .even cs wt _,p,n=>wt*(cs.getD p.toNat 0+n) ^ 2
 | .change _,_,_=>0
 | .level cs l,p,n=>if cs.getD p.toNat 0+n - l>0 then cs.getD p.toNat 0+n - l else 0
def wH:fD→Int→Int→Nat→Int
 | .base,_,_,_=>0
 | .even _ _ ws,p,d,c=>acV ws p d c
 | .change rows,p,d,c=>if (rows.getD p.toNat []).getD d.toNat 0=c then 0 else 1
 | .level _ _,_,_,_=>0
def okC(m dd:Nat):fD→Prop
 | .base=>True
 | .even cs wt _=>cs.length=m∧(∀c∈cs,big c)∧0≤wt∧wt≤1000
 | .change rows=>rows.length=m∧ ∀r∈rows,r.length=dd
 | .level cs _=>cs.length=m
def iy(A:Ad):bK:=fun ds P=>match ds with|[x, .str nm]=> ∃d ks ns ps lv ws rs pr p,x=bA A d ks ns ps lv ws rs pr∧aaR ps∧p<ps.length∧nm=(ps.map (·.name)).getD p []∧P (.int (p:Nat))|_=>False
def jj(A:Ad):rD:=fun C S=>C=A.cHouse∧S=iy A
def fQ(A:Ad):bK:=fun ds P=>match ds with|[x,y,z]=>P (.int 0)|_=>False
def gJ(A:Ad):bK:=fun ds P=>match ds with|[x,y,z,u]=>P (.int 0)|_=>False
def eE(A:Ad):bK:=fun ds P=>match ds with|[x, .int p, .int n]=> ∃cs wt ws,x=Lk A cs wt ws∧((0≤p∧p<cs.length)∧(∀c∈cs,big c)∧(0≤wt∧wt≤1000)∧0≤n∧n≤1000)∧P (.int (qD (.even cs wt ws) p n))|_=>False
def fB(A:Ad):bK:=fun ds P=>match ds with|[x, .int p, .int d, .str [c]]=> ∃cs wt ws,x=Lk A cs wt ws∧P (.int (acV ws p d c))|_=>False
def dR(A:Ad):bK:=fun ds P=>match ds with|[x, .int p, .int d, .str [c]]=> ∃rows,x=Qg A rows∧((0≤p∧0≤d)∧p<rows.length∧ ∀r∈rows,d<r.length)∧P (.int (wH (.change rows) p d c))|_=>False
def dU(A:Ad):bK:=fun ds P=>match ds with|[x, .int p, .int n]=> ∃cs l,x=aaS A cs l∧(0≤p∧p<cs.length)∧P (.int (qD (.level cs l) p n))|_=>False
def mF(A:Ad):rD:=fun C S=>(C=A.cCosts∧S=fQ A)∨(C=A.cEvenCosts∧S=eE A)∨(C=A.cChangeCosts∧S=fQ A)∨(C=A.cLevelCosts∧S=dU A)
def o_(A:Ad):rD:=fun C S=>(C=A.cCosts∧S=gJ A)∨(C=A.cEvenCosts∧S=fB A)∨(C=A.cChangeCosts∧S=dR A)∨(C=A.cLevelCosts∧S=gJ A)
def jK(A:Ad):d9:=fun ds P=>match ds with|[x]=> ∃d ks ns ps lv, ∃ws:List Xz, ∃rs pr,x=bA A d ks ns ps lv (ws.map (acT ps)) rs pr∧(aaR ps∧ws.length≤900∧ ∀w∈ws,w.p<ps.length)∧P [("carried",iK (ps.map (·.carried))),("weight", .int (ws.length+1)),("wishes", .lst (ws.map acU))]|_=>False
def g_(A:Ad):d9:=fun ds P=>match ds with|[x, .lst xs]=>P [("rota", .lst xs)]|_=>False
def jc(A:Ad):d9:=fun ds P=>match ds with|[x, .int l]=> ∃d ks ns ps lv ws rs pr,x=bA A d ks ns ps lv ws rs pr∧ps.length≤100∧P [("carried",iK (ps.map (·.carried))),("level", .int l)]|_=>False
def cI(A:Ad):bK:=fun ds P=>match ds with|[x, .int k]=> ∃ns,x=iK ns∧0≤k∧P (.int (ns.getD k.toNat 0))|_=>False
def dut(r:Tx):Int:=((r.filter fun c=> !decide (c=45)).length:Nat)
def FP(k:fD)(p:Nat)(r:Tx)(n:Nat):Int:=((List.range n).map fun (j:Nat)=>wH k p j (r.getD j 0)).sum
def FQ(k:fD)(rows:List Tx)(n:Nat):Int:=((List.range n).map fun (p:Nat)=>FP k p (rows.getD p []) (rows.getD p []).length+qD k p (dut (rows.getD p []))).sum
def okT(d:Int)(k:fD)(rows:List Tx):Prop:=(rows.length≤100∧0≤d∧d≤100∧ ∀r∈rows,r.length=d.toNat)∧okC rows.length d.toNat k
def jk(A:Ad):bK:=fun ds P=>match ds with|[h,c,y]=> ∃d ks ns ps lv ws rs pr k rows,h=bA A d ks ns ps lv ws rs pr∧c=eV A k∧y=cR rows∧okT d k rows∧P (.int (FQ k rows rows.length))|_=>False
def lu(A:Ad):bK:=fun ds P=>match ds with|[x, .int d, .str [c]]=> ∃n ks, ∃l:List vZ, ∃ps lv ws rs pr,x=bA A n ks (l.map lN) ps lv ws rs pr∧P (.tup [.int (cH l d c).1, .int (cH l d c).2])|_=>False
def mJ(A:Ad):bK:=fun ds P=>match ds with|[x, .int p, .int d]=> ∃n ks, ∃l:List vZ, ∃ps, ∃lv:List (Tx×Int), ∃ws rs pr,x=bA A n ks (l.map lN) ps (lv.map jC) ws rs pr∧ks.length≤100∧ ∃q,(0≤p∧ps[p.toNat]? =some q)∧P (.str (Ov ks l q lv d))|_=>False
def ye(A:Ad):rD:=fun C S=>C=A.cHouse∧S=lu A
def YJ(A:Ad):rD:=fun C S=>C=A.cHouse∧S=mJ A
inductive R
 |never (w:Tx)
 |nev (f:Empty)
def Ln(s m:Tx):Bool:=if s=[63] then true else if s=[35] then decide (m≠[45]) else decide (s=m)
def fu(z:Tx)(n:Int):Tx:=z.drop ((z.length:Int) - n).toNat
def BR(w z:Tx):Bool:=decide (w.length≤z.length)&&(w.zip (z.drop (z.length - w.length))).all fun p=>Ln [p.1] [p.2]
def uB:R→Tx→Bool
 | .never w,z=>BR w z
 | .nev _,_=>false
def depth:R→Nat
 | .never _=>0
 | .nev _=>0
def rW(A:Ad):R→D
 | .never w=> .obj A.cNever [("word", .str w)]
 | .nev _=> .non
theorem acW(A:Ad)(w:Tx):rW A (.never w)= .obj A.cNever [("word", .str w)]:=rfl
def yf(A:Ad):bK:=fun ds P=>match ds with|[.str s, .str m]=>P (.bl (Ln s m))|_=>False
def iU(A:Ad):bK:=fun ds P=>match ds with|[.str z, .int n]=>P (.str (fu z n))|_=>False
def tM(A:Ad):d9:=fun ds P=>match ds with|[.str w]=>P [("word", .str w)]|_=>False
def kY(A:Ad):bK:=fun ds P=>match ds with|[x, .str z]=> ∃w,x=rW A (.never w)∧P (.bl (BR w z))|_=>False
def U7(A:Ad):rD:=fun C S=>C=A.cNever∧S=kY A
def okR:R→Prop
 | .never w=>1≤w.length∧w.length≤7
 | .nev _=>False
def aEY:Tx:=[97,108,108]
def yg:Tx:=[97,112,97,114,116]
structure Pr where
 w:Tx
 n:Tx
 o:Tx
def rlD(A:Ad)(z:Tx×R):D:= .tup [.str z.1,rW A z.2]
def anS(z:Pr):D:= .tup [.str z.w, .str z.n, .str z.o]
def J9(a b:Int):Int:=if a<b then b else a
def iT:R→Int
 | .never w=>w.length
 | .nev _=>1
def jm(A:Ad):bK:=fun ds P=>match ds with|[x]=> ∃w,x=rW A (.never w)∧P (.int w.length)|_=>False
def FT(A:Ad):rD:=fun C S=>C=A.cNever∧S=jm A
structure Hs where
 d:Int
 ks:Tx
 l:List vZ
 ps:List i_
 lv:List (Tx×Int)
 ws:List D
 rs:List (Tx×R)
 pr:List Pr
def aJ(A:Ad)(h:Hs):D:=bA A h.d h.ks (h.l.map lN) h.ps (h.lv.map jC) h.ws (h.rs.map (rlD A)) (h.pr.map anS)
def mk(r:Tx)(d:Int):Nat:=r.getD d.toNat 0
def aeR(r:Tx)(d:Int):Int:=(((r.take (d.toNat+1)).filter fun c=> !decide (c=45)).length:Nat)
def acX(rows:List Tx)(d:Int)(k:Nat):Int:=((rows.filter fun r=>decide (mk r d=k)).length:Nat)
def skQ(d:Int)(q:i_×Tx):Bool:= !decide (mk q.2 d=45)&& !decide (mk q.2 d∈q.1.skills)
def skD(d:Int)(q:i_×Tx):List D:=[.int d, .str [115,107,105,108,108], .str q.1.name, .str [mk q.2 d]]
def lvQ(lv:List (Tx×Int))(d:Int)(q:i_×Tx):Bool:= !decide (mk q.2 d=45)&&lv.any fun z=>decide (z=(q.1.name,d))
def lvD(d:Int)(q:i_×Tx):List D:=[.int d, .str [108,101,97,118,101], .str q.1.name, .str [mk q.2 d]]
def moQ(d:Int)(q:i_×Tx):Bool:= !decide (mk q.2 d=45)&&decide (q.1.most<aeR q.2 d)
def moD(d:Int)(q:i_×Tx):List D:=[.int d, .str [109,111,115,116], .str q.1.name, .int (aeR q.2 d)]
def neQ(l:List vZ)(rows:List Tx)(d:Int)(k:Nat):Bool:=decide (acX rows d k<(cH l d k).1) || decide ((cH l d k).2<acX rows d k)
def neD(rows:List Tx)(d:Int)(k:Nat):List D:=[.int d, .str [110,101,101,100], .str [k], .int (acX rows d k)]
def skF(h:Hs)(rows:List Tx)(d:Int):List (List D):=((h.ps.zip rows).filter (skQ d)).map (skD d)
def lvF(h:Hs)(rows:List Tx)(d:Int):List (List D):=((h.ps.zip rows).filter (lvQ h.lv d)).map (lvD d)
def moF(h:Hs)(rows:List Tx)(d:Int):List (List D):=((h.ps.zip rows).filter (moQ d)).map (moD d)
def neF(h:Hs)(rows:List Tx)(d:Int):List (List D):=(h.ks.filter (neQ h.l rows d)).map (neD rows d)
def bnQ(x:i_)(z:Nat×(Tx×R)):Bool:=decide (z.2.1=aEY) || decide (z.2.1=x.name)
def FW(rs:List (Tx×R)):List (Nat×(Tx×R)):=(List.range rs.length).zip rs
def lH(rs:List (Tx×R))(x:i_):List (Nat×(Tx×R)):=(FW rs).filter (bnQ x)
def bnD(A:Ad)(z:Nat×(Tx×R)):D:= .tup [.int (z.1:Nat),rW A z.2.2]
def wI(x:i_)(r:Tx)(d:Int):Tx:=fu (x.past++r.take (d.toNat+1)) 7
def ruD(d:Int)(x:i_)(n:Nat):List D:=[.int d, .str [114,117,108,101], .str x.name, .int (n:Nat)]
def ru1(rs:List (Tx×R))(x:i_)(t:Tx)(d:Int):List (List D):=((lH rs x).filter fun z=>uB z.2.2 t).map fun z=>ruD d x z.1
def ruF(h:Hs)(rows:List Tx)(d:Int):List (List D):=(h.ps.zip rows).flatMap fun q=>ru1 h.rs q.1 (wI q.1 q.2 d) d
def plN(ps:List i_)(n:Tx):Nat:=(ps.map (·.name)).idxOf n
def paQ(h:Hs)(rows:List Tx)(d:Int)(z:Nat×Pr):Bool:=
 !decide (mk (rows.getD (plN h.ps z.2.n) []) d=45)&&(decide (mk (rows.getD (plN h.ps z.2.n) []) d=mk (rows.getD (plN h.ps z.2.o) []) d)==decide (z.2.w=yg))
def paD(d:Int)(z:Nat×Pr):List D:=[.int d, .str [112,97,105,114], .str z.2.n, .int (z.1:Nat)]
def FZ(pr:List Pr):List (Nat×Pr):=(List.range pr.length).zip pr
def paF(h:Hs)(rows:List Tx)(d:Int):List (List D):=((FZ h.pr).filter (paQ h rows d)).map (paD d)
def as_(h:Hs)(rows:List Tx)(d:Int):List (List D):=skF h rows d++lvF h rows d++neF h rows d++moF h rows d++ruF h rows d++paF h rows d
def aeS(h:Hs)(rows:List Tx)(n:Nat):List (List D):=(List.range n).flatMap fun (i:Nat)=>as_ h rows (i:Nat)
def flD(l:List (List D)):D:= .lst (l.map D.tup)
def okH(h:Hs):Prop:=(h.rs.length≤100∧ ∀z∈h.rs,depth z.2≤2∧okR z.2)∧(h.pr.length≤100∧ ∀z∈h.pr,z.n∈h.ps.map (·.name)∧z.o∈h.ps.map (·.name))
def okF(h:Hs)(rows:List Tx)(d:Int):Prop:=((0≤d∧d≤1000)∧h.ps.length≤100∧rows.length=h.ps.length)∧(h.ks.length≤4∧ ∀q∈h.ps,q.past.length≤100)∧ ∀r∈rows,d<r.length∧r.length≤1000
def okA(h:Hs)(rows:List Tx):Prop:=(((1≤h.d∧h.d≤14)∧ ∀i:Nat,(i:Int)<h.d→okF h rows i)∧okH h∧aaR h.ps)
def aeT(h:Hs)(rows:List Tx):List (List D):=aeS h rows h.d.toNat
def gD(A:Ad):bK:=fun ds P=>match ds with|[x, .int p]=> ∃h,x=aJ A h∧h.rs.length≤100∧ ∃q,(0≤p∧h.ps[p.toNat]? =some q)∧P (.lst ((lH h.rs q).map (bnD A)))|_=>False
def jL(A:Ad):rD:=fun C S=>C=A.cHouse∧S=gD A
def fY(A:Ad):bK:=fun ds P=>match ds with|[x,y, .int d]=> ∃h rows,x=aJ A h∧y=cR rows∧okF h rows d∧P (flD (skF h rows d))|_=>False
def fZ(A:Ad):bK:=fun ds P=>match ds with|[x,y, .int d]=> ∃h rows,x=aJ A h∧y=cR rows∧okF h rows d∧P (flD (lvF h rows d))|_=>False
def h_(A:Ad):bK:=fun ds P=>match ds with|[x,y, .int d]=> ∃h rows,x=aJ A h∧y=cR rows∧okF h rows d∧P (flD (moF h rows d))|_=>False
def ie(A:Ad):bK:=fun ds P=>match ds with|[x,y, .int d]=> ∃h rows,x=aJ A h∧y=cR rows∧okF h rows d∧P (flD (neF h rows d))|_=>False
def ig(A:Ad):bK:=fun ds P=>match ds with|[x,y, .int d]=> ∃h rows,x=aJ A h∧y=cR rows∧okF h rows d∧okH h∧P (flD (ruF h rows d))|_=>False
def ir(A:Ad):bK:=fun ds P=>match ds with|[x,y, .int d]=> ∃h rows,x=aJ A h∧y=cR rows∧okF h rows d∧okH h∧aaR h.ps∧P (flD (paF h rows d))|_=>False
def rY(A:Ad):bK:=fun ds P=>match ds with|[x,y]=> ∃h rows,x=aJ A h∧y=cR rows∧okA h rows∧P (flD (aeT h rows))|_=>False
def F_(h:Hs)(p:Nat)(d:Int):Tx:=match h.ps[p]? with|some x=>Ov h.ks h.l x h.lv d|none=>[]
def bf(h:Hs)(d:Int):List Tx:=(List.range h.ps.length).map fun p=>45::F_ h p d
def jd(l:List Tx):Nat:=l.foldl (fun w m=>w*m.length) 1
def qM(found:List Tx)(marks:Tx):List Tx:=found.flatMap fun c=>marks.map fun m=>c++[m]
def nQ(l:List Tx):List Tx:=l.foldl qM [[]]
def Lp(lh:Int×Int)(c:Int):Bool:=decide (lh.1≤c)&&decide (c≤lh.2)
def nR(h:Hs)(d:Int)(col:Tx):Bool:=h.ks.all fun k=>Lp (cH h.l d k) (Ot k col)
def J_(h:Hs)(col:Tx)(z:Pr):Bool:=decide (col.getD (plN h.ps z.n) 0=45) || (decide (col.getD (plN h.ps z.o) 0=col.getD (plN h.ps z.n) 0) !=decide (z.w=yg))
def pG(h:Hs)(col:Tx):Bool:=h.pr.all (J_ h col)
def yh(h:Hs)(d:Int):List Tx:=(nQ (bf h d)).filter fun c=>nR h d c&&pG h c
def aeU(a b:Tx):Bool:= !decide (b<a)
def gQ(h:Hs)(d:Int):List Tx:=(yh h d).mergeSort aeU
structure okB(h:Hs):Prop where
 days:1≤h.d∧h.d≤14
 ks:h.ks.length≤4∧h.ks.Nodup∧45∉h.ks
 nl:h.l.length≤100
 pl:h.ps.length≤8
 pn:aaR h.ps
 pp: ∀p∈h.ps,p.past.length≤100∧p.most≤1000
 ll:h.lv.length≤200
 rp:okH h
def jD(A:Ad):jB:=fun ds P Xc=>match ds with|[x, .int d]=> ∃h,x=aJ A h∧okB h∧(256<jd (bf h d)→Xc A.cTooWide none)∧(jd (bf h d)≤256→P (.lst ((gQ h d).map D.str)))|_=>False
def je(A:Ad):bK:=fun ds P=>match ds with|[x, .int d, .str c]=> ∃h,x=aJ A h∧P (.bl (nR h d c))|_=>False
def jf(A:Ad):bK:=fun ds P=>match ds with|[x, .str c]=> ∃h,x=aJ A h∧okB h∧c.length=h.ps.length∧P (.bl (pG h c))|_=>False
def jE(h:Hs)(p:i_):List R:=(lH h.rs p).map (·.2.2)
def jF(rs:List R):Int:=rs.foldl (fun a r=>J9 a (iT r)) 1
def iz(A:Ad):bK:=fun ds P=>match ds with|[x, .int p]=> ∃h,x=aJ A h∧okH h∧ ∃q,(0≤p∧h.ps[p.toNat]? =some q)∧P (.int (jF (jE h q)))|_=>False
def ph(A:Ad):rD:=fun C S=>C=A.cHouse∧S=iz A
structure Hn where
 rs:List R
 kept:Int
 most:Int
 beg:Tx
def jo(A:Ad)(x:Hn):D:= .obj A.cHand [("rules", .lst (x.rs.map (rW A))),("kept", .int x.kept),("most", .int x.most),("begin", .str x.beg)]
def anT(l:List D):Tr:= .lst (l.map .sh)
def anU(A:Ad)(x:Hn):Tr:= .obj A.cHand [("rules",anT (x.rs.map (rW A))),("kept", .sh (.int x.kept)),("most", .sh (.int x.most)),("begin", .sh (.str x.beg))]
def fK(h:Hs)(p:i_):Hn:=⟨jE h p,jF (jE h p) - 1,p.most,fu p.past (jF (jE h p) - 1)⟩
def cQ(h:Hs):List Hn:=h.ps.map (fK h)
def fG(A:Ad):iY:=fun xs P=>match xs with|[.t t, .d x, .d (.int p)]=> ∃h q,t= .obj A.cHand []∧x=aJ A h∧okH h∧(0≤p∧h.ps[p.toNat]? =some q)∧P (.sh .non) [anU A (fK h q)]|_=>False
def jM(A:Ad):iY:=fun xs P=>match xs with|[.b t, .d (.str z)]=> ∃r k m,t= .obj A.cHand [("rules",r),("kept", .sh (.int k)),("most",m)]∧P (.sh (.str (fu z k))) []|_=>False
def pq(A:Ad):bK:=fun ds P=>match ds with|[x, .str z]=> ∃n,x=jo A n∧P (.str (fu z n.kept))|_=>False
def ag6(A:Ad):rD:=fun C S=>C=A.cHand∧S=pq A
def anV(n:Hn):Prop:=n.rs.length≤100∧ ∀r∈n.rs,depth r≤2
def aeV(n:Hn)(z:Tx)(m:Int):Bool:=decide (m≤n.most)&& !(n.rs.any fun r=>uB r z)
def mK(A:Ad):bK:=fun ds P=>match ds with|[x, .str z, .int m]=> ∃n,x=jo A n∧anV n∧z.length≤1000∧P (.bl (aeV n z m))|_=>False
def aaT(A:Ad):rD:=fun C S=>C=A.cHand∧S=mK A
def U8(c:Nat):Int:=if c=45 then 0 else 1
def Lq(n:Hn)(t:Tx)(b:Int)(c:Nat):Bool:=aeV n (t++[c]) (b+U8 c)
def ag7(n:Hn)(t:Tx)(c:Nat):Tx:=fu (t++[c]) n.kept
def ag8(n:Hn)(t:Tx)(b:Int)(c:Nat):D:= .tup [.str (ag7 n t c), .int (b+U8 c)]
def yj(n:Hn)(t:Tx)(b:Int)(f:List (KD×D))(c:Nat):List (KD×D):=if Lq n t b c then jJ (.inr [c]) (ag8 n t b c) f else f
def oK(n:Hn)(t:Tx)(b:Int)(s:Tx):List (KD×D):=s.foldl (yj n t b) []
def jW(A:Ad):bK:=fun ds P=>match ds with|[x, .str t, .int b, .str s]=> ∃n,x=jo A n∧anV n∧(t.length≤900∧s.length≤100)∧P (.dct (oK n t b s))|_=>False
def Ge(A:Ad):rD:=fun C S=>C=A.cHand∧S=jW A
def fU(A:Ad):bK:=fun ds P=>match ds with|[x]=> ∃h,x=aJ A h∧(okH h∧h.ps.length≤100)∧P (.lst ((cQ h).map (jo A)))|_=>False
def lJ(hs:List Hn):En:=((hs.map (·.beg),hs.map fun _=>0),0)
def dY(A:Ad):bK:=fun ds P=>match ds with|[x]=> ∃hs:List Hn,x= .lst (hs.map (jo A))∧hs.length≤100∧P (b_ (lJ hs))|_=>False
def hn0:Hn:=⟨[],0,0,[]⟩
def okS(hs:List Hn)(e:En)(col:Tx)(p:Nat):Bool:=Lq (hs.getD p hn0) (e.1.1.getD p []) (e.1.2.getD p 0) (col.getD p 0)
def nxT(hs:List Hn)(e:En)(col:Tx)(p:Nat):Tx:=ag7 (hs.getD p hn0) (e.1.1.getD p []) (col.getD p 0)
def nxN(e:En)(col:Tx)(p:Nat):Int:=e.1.2.getD p 0+U8 (col.getD p 0)
def XD(k:fD)(d:Int)(col:Tx)(n:Nat):Int:=((List.range n).map fun (p:Nat)=>wH k p d (col.getD p 0)).sum
def pX(hs:List Hn)(k:fD)(d:Int)(e:En)(col:Tx):Option En:=
 if (List.range hs.length).all (okS hs e col) then some (((List.range hs.length).map (nxT hs e col),(List.range hs.length).map (nxN e col)),e.2+XD k d col hs.length) else none
def ata:Option En→D
 |none=> .non
 |some e=>b_ e
def okE(m:Nat)(e:En):Prop:=e.1.1.length=m∧e.1.2.length=m∧(∀t∈e.1.1,t.length≤100)∧ ∀c∈e.1.2,0≤c∧c≤1000
def acY(hs:List Hn)(e:En)(col:Tx)(ls:List (List (KD×D)))(p:Nat):Prop:=eQ (.inr [col.getD p 0]) (ls.getD p [])=if okS hs e col p then some (.tup [.str (nxT hs e col p), .int (nxN e col p)]) else none
def ym(A:Ad):bK:=fun ds P=>match ds with|[x,c, .int d,y, .str col]=> ∃(ls:List (List (KD×D))) (hs:List Hn) (k:fD) (e:En) (dd:Nat),x= .lst (ls.map D.dct)∧c=eV A k∧y=b_ e∧(hs.length≤100∧ls.length=hs.length∧col.length=hs.length∧okC hs.length dd k∧0≤d∧d<dd)∧(∀p,p<hs.length→acY hs e col ls p)∧P (ata (pX hs k d e col))|_=>False
abbrev St:=En×Tx×En
def stD(s:St):D:= .tup [b_ s.1, .str s.2.1,b_ s.2.2]
def cO(h:Hs)(k:fD)(d:Int)(page:List En):List St:=page.flatMap fun e=>(gQ h d).filterMap fun col=>(pX (cQ h) k d e col).map fun e2=>(e,col,e2)
def XF(h:Hs)(page:List En):Prop:=page.length≤300∧ ∀e∈page,okE h.ps.length e
def okK(h:Hs)(k:fD):Prop:=okC h.ps.length h.d.toNat k
def pH(A:Ad):jB:=fun ds P Xc=>match ds with|[x,c, .int d,y]=> ∃h k, ∃page:List En,x=aJ A h∧c=eV A k∧y= .lst (page.map b_)∧(okB h∧okK h k∧XF h page∧0≤d∧d<h.d)∧(256<jd (bf h d)→Xc A.cTooWide none)∧(jd (bf h d)≤256→P (.lst ((cO h k d page).map stD)))|_=>False
def wY(k:fD)(e:En):Int:=e.2+((List.range e.1.2.length).map fun (p:Nat)=>qD k p (e.1.2.getD p 0)).sum
def lX(A:Ad):bK:=fun ds P=>match ds with|[c,y]=> ∃k e dd,c=eV A k∧y=b_ e∧(okE e.1.2.length e∧e.1.2.length≤100∧okC e.1.2.length dd k)∧P (.int (wY k e))|_=>False
abbrev Bw:=List (KB×Int)×List (KB×(KB×Tx))
def bw1(b:Bw)(s:St):Bw:=match bO s.2.2.1 b.1 with|none=>(d8 s.2.2.1 s.2.2.2 b.1,d8 s.2.2.1 (s.1.1,s.2.1) b.2)|some c=>if s.2.2.2<c then (d8 s.2.2.1 s.2.2.2 b.1,d8 s.2.2.1 (s.1.1,s.2.1) b.2) else b
def bwE(l:List St):Bw:=l.foldl bw1 ([],[])
def uP(l:List St):List En:=acO (bwE l).1
def U9(w:List (KB×(KB×Tx))):D:= .nct (w.map fun p=>(p.1, .tup [lM p.2.1, .str p.2.2]))
def fW(A:Ad):jB:=fun ds P Xc=>match ds with|[x,c, .int d,y]=> ∃h k, ∃page:List En,x=aJ A h∧c=eV A k∧y= .lst (page.map b_)∧(okB h∧okK h k∧XF h page∧0≤d∧d<h.d)∧((256<jd (bf h d)∨300<(bwE (cO h k d page)).1.length)→Xc A.cTooWide none)∧((jd (bf h d)≤256∧(bwE (cO h k d page)).1.length≤300)→P (.tup [.lst ((uP (cO h k d page)).map b_),U9 (bwE (cO h k d page)).2]))|_=>False
def wJ:List (List (KB×(KB×Tx)))→KB→List Tx→Option (List Tx)
 |[],_,rows=>some rows
 |w::ws,k,rows=>match bO k w with|some z=>wJ ws z.1 ((z.2.zip rows).map fun p=>p.1::p.2)|none=>none
def jg(A:Ad):bK:=fun ds P=>match ds with|[x,y,z]=> ∃h k, ∃ws:List (List (KB×(KB×Tx))), ∃rows,x=aJ A h∧y=lM k∧z= .lst (ws.map U9)∧(h.ps.length≤100∧ws.length≤100)∧wJ ws.reverse k (List.replicate h.ps.length [])=some rows∧(∀w∈ws, ∀p∈w,p.2.2.length≤100)∧P (cR rows)|_=>False
def bL(h:Hs)(k:fD):Nat→List En
 | 0=>[lJ (cQ h)]
 |n+1=>uP (cO h k n (bL h k n))
def Ow(h:Hs)(k:fD)(n:Nat):List (KB×(KB×Tx)):=(bwE (cO h k n (bL h k n))).2
def j7(h:Hs)(k:fD):Nat:=((List.range h.d.toNat).find? fun n=>(bL h k n).isEmpty).getD h.d.toNat
def qN(h:Hs)(k:fD)(n:Nat):Prop:=256<jd (bf h n)∨300<(bwE (cO h k n (bL h k n))).1.length
def nU(A:Ad)(pages:List (List En)):D:= .obj A.cBook [("pages", .lst (pages.map fun p=> .lst (p.map b_)))]
def lK(h:Hs)(k:fD):List (List En):=(List.range (j7 h k+1)).map (bL h k)
def Gf(A:Ad)(h:Hs)(k:fD):D:=nU A (lK h k)
def qF(A:Ad):d9:=fun ds P=>match ds with|[x]=> ∃pages:List (List En),x= .lst (pages.map fun p=> .lst (p.map b_))∧pages.length≤100∧P [("pages",x)]|_=>False
def qW(A:Ad):d9:=fun ds P=>match ds with|[.lst r,t,p]=>P [("rota", .lst r),("total",t),("paper",p)]|_=>False
def lw(A:Ad):d9:=fun ds P=>match ds with|[p]=>P [("paper",p)]|_=>False
def Ka(A:Ad)(rows:List Tx)(t:Int)(b:D):D:= .obj A.cFound [("rota",cR rows),("total", .int t),("paper",b)]
def rZ(A:Ad)(b:D):D:= .obj A.cWithout [("paper",b)]
def aaU(k:fD)(page:List En)(e:En):Prop:=e∈page∧ ∀x∈page,wY k e≤wY k x
def acZ(h:Hs)(k:fD)(e:En)(rows:List Tx):Prop:=wJ ((List.range (j7 h k)).map (Ow h k)).reverse e.1 (List.replicate h.ps.length [])=some rows
def cC(A:Ad):jB:=fun ds P Xc=>match ds with|[x,c]=> ∃h k,x=aJ A h∧c=eV A k∧(okB h∧okK h k)∧((∃n,n<j7 h k∧qN h k n)→Xc A.cTooWide none)∧((∀n,n<j7 h k→ ¬qN h k n)→(bL h k (j7 h k)=[]→P (rZ A (Gf A h k)))∧(∀e rows,aaU k (bL h k (j7 h k)) e→acZ h k e rows→P (Ka A rows (wY k e) (Gf A h k))))|_=>False
def v5(b:List (KB×Int))(e:En):List (KB×Int):=d8 e.1 (if (bO e.1 b).getD e.2<e.2 then (bO e.1 b).getD e.2 else e.2) b
def jG(page:List En):List (KB×Int):=page.foldl v5 []
def ac0(b:List (KB×Int)):D:= .nct (b.map fun p=>(p.1, .int p.2))
def pA(b:List (KB×Int))(e:En):Bool:=match bO e.1 b with|some c=>decide (c≤e.2)|none=>false
def eX(A:Ad):bK:=fun ds P=>match ds with|[y]=> ∃page:List En,y= .lst (page.map b_)∧page.length≤1000∧P (ac0 (jG page))|_=>False
def pJ(A:Ad):bK:=fun ds P=>match ds with|[x,y]=> ∃b e,x=ac0 b∧y=b_ e∧P (.bl (pA b e))|_=>False
def z_(h:Hs)(pages:List (List En)):Prop:=pages.length≤100∧ ∀p∈pages,XF h p
def jH(h:Hs)(k:fD)(pages:List (List En))(d:Nat):Bool:=decide (d+1<pages.length)&&(decide (jd (bf h d)≤256)&&(cO h k d (pages.getD d [])).all fun s=>pA (jG (pages.getD (d+1) [])) s.2.2)
def gG(A:Ad):bK:=fun ds P=>match ds with|[x,y,c, .int d]=> ∃h k, ∃pages:List (List En), ∃n:Nat,x=nU A pages∧y=aJ A h∧c=eV A k∧d=n∧(okB h∧okK h k∧z_ h pages∧(n:Int)<h.d∧n<pages.length)∧P (.bl (jH h k pages n))|_=>False
def qX(A:Ad):rD:=fun C S=>C=A.cBook∧S=gG A
def nW(h:Hs)(k:fD)(pages:List (List En)):Nat→Nat→D
 | 0,d=>acP .non ((pages.getD d []).map (wY k))
 |n+1,d=>if (pages.getD d []).isEmpty then .non else if jH h k pages d then nW h k pages n (d+1) else .int 0
def lL(h:Hs)(k:fD)(pages:List (List En)):D:=if pages.isEmpty || !pA (jG (pages.getD 0 [])) (lJ (cQ h)) then .int 0 else nW h k pages h.d.toNat 0
def jP(A:Ad):bK:=fun ds P=>match ds with|[x,y,c]=> ∃h k, ∃pages:List (List En),x=nU A pages∧y=aJ A h∧c=eV A k∧(okB h∧okK h k∧z_ h pages)∧P (lL h k pages)|_=>False
def XH(A:Ad):bK:=fun ds P=>match ds with|[x,y,c]=>P (.int 0)|_=>False
def qY(A:Ad):rD:=fun C S=>C=A.cBook∧S=jP A
def yo(A:Ad):bK:=fun ds P=>match ds with|[x,y,c]=> ∃h k, ∃pages:List (List En), ∃rows t,x=Ka A rows t (nU A pages)∧y=aJ A h∧c=eV A k∧(okB h∧okK h k∧z_ h pages∧okA h rows∧okT h.d k rows)∧((aeT h rows=[]∧FQ k rows rows.length=t∧lL h k pages= .int t)→P (.bl true))∧(¬(aeT h rows=[]∧FQ k rows rows.length=t∧lL h k pages= .int t)→P (.bl false))|_=>False
def uQ(A:Ad):bK:=fun ds P=>match ds with|[x,y,c]=> ∃h k, ∃pages:List (List En),x=rZ A (nU A pages)∧y=aJ A h∧c=eV A k∧(okB h∧okK h k∧z_ h pages)∧P (.bl (DL.sU (lL h k pages)))|_=>False
def aDE(A:Ad):rD:=fun C S=>C=A.cFound∧S=yo A∨C=A.cWithout∧S=uQ A
def mO(A:Ad):bK:=fun ds P=>match ds with|[.int c, .int m]=>(0≤m∧m≤7)∧(∀nms:List Tx,nms.length=m.toNat→nms.Nodup→(∀t∈nms,t.length≤8)→P (cR nms))|_=>False
def mQ(A:Ad):bK:=fun ds P=>match ds with|[.int c, .int m]=>(1≤m∧m≤4)∧(∀w:Tx,w.length=m.toNat→w.Nodup→45∉w→63∉w→P (.str w))|_=>False
def gR(ks:Tx)(c d:Int):List vZ:=if c%4=0 then [⟨d,ks.getD 0 0,8,8⟩] else if c%4=3 then (List.range ks.length).map (fun (j:Nat)=>⟨d,ks.getD j 0,0,8 - j⟩) else if c%4=1 then [] else [⟨d,ks.getD (ks.length - 1) 0,0,0⟩]
def tO(A:Ad):bK:=fun ds P=>match ds with|[.int c, .int d, .str ks]=>(1≤ks.length∧ks.length≤4)∧P (.lst ((gR ks c d).map lN))|_=>False
def Aa(h:Hs)(d:Int):Nat:=(h.l.filter fun n=>decide (n.d=d)&&decide (0<n.hi)).length
def qO(h:Hs)(nms:List Tx)(d:Int):Nat:=nms.foldl (fun w n=>if h.lv.any (fun z=>decide (z=(n,d))) then w else w*(1+Aa h d)) 1
def jh(A:Ad):bK:=fun ds P=>match ds with|[x,y, .int d,z]=> ∃h nms,x=aJ A h∧y=cR nms∧z= .lst (h.lv.map jC)∧(nms.length≤7∧h.l.length≤100∧h.lv.length≤200)∧P (.int (qO h nms d))|_=>False
structure yq(h:Hs)(sorts:List Int):Prop where
 ok:okB h
 dl:h.d=sorts.length
 pl:4≤h.ps.length∧h.ps.length≤7
 pm: ∀p∈h.ps,p.most=14∧p.skills=h.ks∧big p.carried
 kl:1≤h.ks.length
 nd:h.l=(List.range sorts.length).flatMap fun (i:Nat)=>gR h.ks (sorts.getD i 0) i
 ru: ∀z∈h.rs, ∃c,c≠45∧c≠63∧z.2= .never [c,63,c]
 ws:h.ws=[]
def lB(A:Ad):bK:=fun ds P=>match ds with|[x,y, .str ks,z]=> ∃ns sorts nms,x=iK ns∧y=iK sorts∧z=cR nms∧((1≤sorts.length∧sorts.length≤10)∧(1≤ks.length∧ks.length≤4∧ks.Nodup∧45∉ks∧63∉ks)∧4≤nms.length∧nms.length≤7∧nms.Nodup∧ ∀t∈nms,t.length≤8)∧(∀h,yq h sorts→h.ks=ks→h.ps.map (·.name)=nms→P (aJ A h))|_=>False
def lC(A:Ad):bK:=fun ds P=>match ds with|[x,y]=> ∃ns h sorts,x=iK ns∧y=aJ A h∧yq h sorts∧(∀k,okK h k→(∀(p d:Nat),p<h.ps.length→d<h.d.toNat→wH k p d 45=0)→P (eV A k))|_=>False
def ji(A:Ad):bK:=fun ds P=>match ds with|[x,c]=> ∃h k,x=aJ A h∧c=eV A k∧(okB h∧okK h k)∧(∃n,n<j7 h k∧qN h k n)∧P (.bl true)|_=>False
def U_(h:Hs)(d:Nat):En:=((h.ps.map fun p=>fu (p.past++List.replicate d 45) (jF (jE h p) - 1),h.ps.map fun _=>0),0)
def pY(h:Hs):List (List En):=(List.range (h.d.toNat+1)).map fun d=>[U_ h d]
def dB(A:Ad):bK:=fun ds P=>match ds with|[x,c]=> ∃h k,x=aJ A h∧c=eV A k∧(okB h∧okK h k)∧P (lL h k (pY h))|_=>False
def ac1(A:Ad):bK:=pN
section
variable{A:Ad}{P:D→Prop}{PG:List (Str×D)→Prop}{PM:Tr→List Tr→Prop}{Xc:XC}
theorem aeW{a:D}{b:D}{c:D}{d:D}{e:D}:apI (pW A) [a,b,c,d,e] PG=(PG [("name",a),("skills",b),("most",c),("carried",d),("past",e)]):=id rfl
theorem aig{a:D}{b:D}{c:List D}{d:List D}{e:List D}{f:List D}{g:List D}{h:List D}:apI (pF A) [a,b, .lst c, .lst d, .lst e, .lst f, .lst g, .lst h] PG=(PG [("days",a),("kinds",b),("needs", .lst c),("persons", .lst d),("leave", .lst e),("wishes", .lst f),("rules", .lst g),("pairs", .lst h)]):=id rfl
theorem BV{x:D}{nm:Tx}:ap (iy A) [x, .str nm] P=(∃d ks ns ps lv ws rs pr p,x=bA A d ks ns ps lv ws rs pr∧aaR ps∧p<ps.length∧nm=(ps.map (·.name)).getD p []∧P (.int (p:Nat))):=id rfl
theorem BW{x:D}{y:D}{z:D}:ap (fQ A) [x,y,z] P=(P (.int 0)):=id rfl
theorem Gg{x:D}{y:D}{z:D}{u:D}:ap (gJ A) [x,y,z,u] P=(P (.int 0)):=id rfl
theorem v7{x:D}{p:Int}{n:Int}:ap (eE A) [x, .int p, .int n] P=(∃cs wt ws,x=Lk A cs wt ws∧((0≤p∧p<cs.length)∧(∀c∈cs,big c)∧(0≤wt∧wt≤1000)∧0≤n∧n≤1000)∧P (.int (qD (.even cs wt ws) p n))):=id rfl
theorem wZ{x:D}{p:Int}{d:Int}{c:Nat}:ap (fB A) [x, .int p, .int d, .str [c]] P=(∃cs wt ws,x=Lk A cs wt ws∧P (.int (acV ws p d c))):=id rfl
theorem uR{x:D}{p:Int}{d:Int}{c:Nat}:ap (dR A) [x, .int p, .int d, .str [c]] P=(∃rows,x=Qg A rows∧((0≤p∧0≤d)∧p<rows.length∧ ∀r∈rows,d<r.length)∧P (.int (wH (.change rows) p d c))):=id rfl
theorem uU{x:D}{p:Int}{n:Int}:ap (dU A) [x, .int p, .int n] P=(∃cs l,x=aaS A cs l∧(0≤p∧p<cs.length)∧P (.int (qD (.level cs l) p n))):=id rfl
theorem XJ{x:D}:apI (jK A) [x] PG=(∃d ks ns ps lv, ∃ws:List Xz, ∃rs pr,x=bA A d ks ns ps lv (ws.map (acT ps)) rs pr∧(aaR ps∧ws.length≤900∧ ∀w∈ws,w.p<ps.length)∧PG [("carried",iK (ps.map (·.carried))),("weight", .int (ws.length+1)),("wishes", .lst (ws.map acU))]):=id rfl
theorem Ox{x:D}{xs:List D}:apI (g_ A) [x, .lst xs] PG=(PG [("rota", .lst xs)]):=id rfl
theorem Va{x:D}{l:Int}:apI (jc A) [x, .int l] PG=(∃d ks ns ps lv ws rs pr,x=bA A d ks ns ps lv ws rs pr∧ps.length≤100∧PG [("carried",iK (ps.map (·.carried))),("level", .int l)]):=id rfl
theorem XM{x:D}{k:Int}:ap (cI A) [x, .int k] P=(∃ns,x=iK ns∧0≤k∧P (.int (ns.getD k.toNat 0))):=id rfl
theorem aaV{h:D}{c:D}{y:D}:ap (jk A) [h,c,y] P=(∃d ks ns ps lv ws rs pr k rows,h=bA A d ks ns ps lv ws rs pr∧c=eV A k∧y=cR rows∧okT d k rows∧P (.int (FQ k rows rows.length))):=id rfl
theorem Vb{x:D}{d:Int}{c:Nat}:ap (lu A) [x, .int d, .str [c]] P=(∃n ks, ∃l:List vZ, ∃ps lv ws rs pr,x=bA A n ks (l.map lN) ps lv ws rs pr∧P (.tup [.int (cH l d c).1, .int (cH l d c).2])):=id rfl
theorem XN{x:D}{p:Int}{d:Int}:ap (mJ A) [x, .int p, .int d] P=(∃n ks, ∃l:List vZ, ∃ps, ∃lv:List (Tx×Int), ∃ws rs pr,x=bA A n ks (l.map lN) ps (lv.map jC) ws rs pr∧ks.length≤100∧ ∃q,(0≤p∧ps[p.toNat]? =some q)∧P (.str (Ov ks l q lv d))):=id rfl
theorem anW{s:Tx}{m:Tx}:ap (yf A) [.str s, .str m] P=(P (.bl (Ln s m))):=id rfl
theorem ac2{z:Tx}{n:Int}:ap (iU A) [.str z, .int n] P=(P (.str (fu z n))):=id rfl
theorem aih{w:Tx}:apI (tM A) [.str w] PG=(PG [("word", .str w)]):=id rfl
theorem XQ{x:D}{z:Tx}:ap (kY A) [x, .str z] P=(∃w,x=rW A (.never w)∧P (.bl (BR w z))):=id rfl
theorem Oz{x:D}:ap (jm A) [x] P=(∃w,x=rW A (.never w)∧P (.int w.length)):=id rfl
theorem zH{x:D}{p:Int}:ap (gD A) [x, .int p] P=(∃h,x=aJ A h∧h.rs.length≤100∧ ∃q,(0≤p∧h.ps[p.toNat]? =some q)∧P (.lst ((lH h.rs q).map (bnD A)))):=id rfl
theorem Kc{x:D}{y:D}{d:Int}:ap (fY A) [x,y, .int d] P=(∃h rows,x=aJ A h∧y=cR rows∧okF h rows d∧P (flD (skF h rows d))):=id rfl
theorem Kd{x:D}{y:D}{d:Int}:ap (fZ A) [x,y, .int d] P=(∃h rows,x=aJ A h∧y=cR rows∧okF h rows d∧P (flD (lvF h rows d))):=id rfl
theorem OD{x:D}{y:D}{d:Int}:ap (h_ A) [x,y, .int d] P=(∃h rows,x=aJ A h∧y=cR rows∧okF h rows d∧P (flD (moF h rows d))):=id rfl
theorem OJ{x:D}{y:D}{d:Int}:ap (ie A) [x,y, .int d] P=(∃h rows,x=aJ A h∧y=cR rows∧okF h rows d∧P (flD (neF h rows d))):=id rfl
theorem O2{x:D}{y:D}{d:Int}:ap (ig A) [x,y, .int d] P=(∃h rows,x=aJ A h∧y=cR rows∧okF h rows d∧okH h∧P (flD (ruF h rows d))):=id rfl
theorem O3{x:D}{y:D}{d:Int}:ap (ir A) [x,y, .int d] P=(∃h rows,x=aJ A h∧y=cR rows∧okF h rows d∧okH h∧aaR h.ps∧P (flD (paF h rows d))):=id rfl
theorem aeX{x:D}{y:D}:ap (rY A) [x,y] P=(∃h rows,x=aJ A h∧y=cR rows∧okA h rows∧P (flD (aeT h rows))):=id rfl
theorem ac3{x:D}{d:Int}:apX (jD A) [x, .int d] P Xc=(∃h,x=aJ A h∧okB h∧(256<jd (bf h d)→Xc A.cTooWide none)∧(jd (bf h d)≤256→P (.lst ((gQ h d).map D.str)))):=id rfl
theorem Vc{x:D}{d:Int}{c:Tx}:ap (je A) [x, .int d, .str c] P=(∃h,x=aJ A h∧P (.bl (nR h d c))):=id rfl
theorem Vd{x:D}{c:Tx}:ap (jf A) [x, .str c] P=(∃h,x=aJ A h∧okB h∧c.length=h.ps.length∧P (.bl (pG h c))):=id rfl
theorem BX{x:D}{p:Int}:ap (iz A) [x, .int p] P=(∃h,x=aJ A h∧okH h∧ ∃q,(0≤p∧h.ps[p.toNat]? =some q)∧P (.int (jF (jE h q)))):=id rfl
theorem Gh{t:Tr}{x:D}{p:Int}:apG (fG A) [.t t, .d x, .d (.int p)] PM=(∃h q,t= .obj A.cHand []∧x=aJ A h∧okH h∧(0≤p∧h.ps[p.toNat]? =some q)∧PM (.sh .non) [anU A (fK h q)]):=id rfl
theorem XR{t:Tr}{z:Tx}:apG (jM A) [.b t, .d (.str z)] PM=(∃r k m,t= .obj A.cHand [("rules",r),("kept", .sh (.int k)),("most",m)]∧PM (.sh (.str (fu z k))) []):=id rfl
theorem aaW{x:D}{z:Tx}:ap (pq A) [x, .str z] P=(∃n,x=jo A n∧P (.str (fu z n.kept))):=id rfl
theorem XS{x:D}{z:Tx}{m:Int}:ap (mK A) [x, .str z, .int m] P=(∃n,x=jo A n∧anV n∧z.length≤1000∧P (.bl (aeV n z m))):=id rfl
theorem O4{x:D}{t:Tx}{b:Int}{s:Tx}:ap (jW A) [x, .str t, .int b, .str s] P=(∃n,x=jo A n∧anV n∧(t.length≤900∧s.length≤100)∧P (.dct (oK n t b s))):=id rfl
theorem aaX{x:D}:ap (fU A) [x] P=(∃h,x=aJ A h∧(okH h∧h.ps.length≤100)∧P (.lst ((cQ h).map (jo A)))):=id rfl
theorem O5{x:D}:ap (dY A) [x] P=(∃hs:List Hn,x= .lst (hs.map (jo A))∧hs.length≤100∧P (b_ (lJ hs))):=id rfl
theorem anY{x:D}{c:D}{d:Int}{y:D}{col:Tx}:ap (ym A) [x,c, .int d,y, .str col] P=(∃(ls:List (List (KD×D))) (hs:List Hn) (k:fD) (e:En) (dd:Nat),x= .lst (ls.map D.dct)∧c=eV A k∧y=b_ e∧(hs.length≤100∧ls.length=hs.length∧col.length=hs.length∧okC hs.length dd k∧0≤d∧d<dd)∧(∀p,p<hs.length→acY hs e col ls p)∧P (ata (pX hs k d e col))):=id rfl
theorem aii{x:D}{c:D}{d:Int}{y:D}:apX (pH A) [x,c, .int d,y] P Xc=(∃h k, ∃page:List En,x=aJ A h∧c=eV A k∧y= .lst (page.map b_)∧(okB h∧okK h k∧XF h page∧0≤d∧d<h.d)∧(256<jd (bf h d)→Xc A.cTooWide none)∧(jd (bf h d)≤256→P (.lst ((cO h k d page).map stD)))):=id rfl
theorem aij{c:D}{y:D}:ap (lX A) [c,y] P=(∃k e dd,c=eV A k∧y=b_ e∧(okE e.1.2.length e∧e.1.2.length≤100∧okC e.1.2.length dd k)∧P (.int (wY k e))):=id rfl
theorem O6{x:D}{c:D}{d:Int}{y:D}:apX (fW A) [x,c, .int d,y] P Xc=(∃h k, ∃page:List En,x=aJ A h∧c=eV A k∧y= .lst (page.map b_)∧(okB h∧okK h k∧XF h page∧0≤d∧d<h.d)∧((256<jd (bf h d)∨300<(bwE (cO h k d page)).1.length)→Xc A.cTooWide none)∧((jd (bf h d)≤256∧(bwE (cO h k d page)).1.length≤300)→P (.tup [.lst ((uP (cO h k d page)).map b_),U9 (bwE (cO h k d page)).2]))):=id rfl
theorem XX{x:D}{y:D}{z:D}:ap (jg A) [x,y,z] P=(∃h k, ∃ws:List (List (KB×(KB×Tx))), ∃rows,x=aJ A h∧y=lM k∧z= .lst (ws.map U9)∧(h.ps.length≤100∧ws.length≤100)∧wJ ws.reverse k (List.replicate h.ps.length [])=some rows∧(∀w∈ws, ∀p∈w,p.2.2.length≤100)∧P (cR rows)):=id rfl
theorem anZ{x:D}:apI (qF A) [x] PG=(∃pages:List (List En),x= .lst (pages.map fun p=> .lst (p.map b_))∧pages.length≤100∧PG [("pages",x)]):=id rfl
theorem aik{r:List D}{t:D}{p:D}:apI (qW A) [.lst r,t,p] PG=(PG [("rota", .lst r),("total",t),("paper",p)]):=id rfl
theorem ac4{p:D}:apI (lw A) [p] PG=(PG [("paper",p)]):=id rfl
theorem Gi{x:D}{c:D}:apX (cC A) [x,c] P Xc=(∃h k,x=aJ A h∧c=eV A k∧(okB h∧okK h k)∧((∃n,n<j7 h k∧qN h k n)→Xc A.cTooWide none)∧((∀n,n<j7 h k→ ¬qN h k n)→(bL h k (j7 h k)=[]→P (rZ A (Gf A h k)))∧(∀e rows,aaU k (bL h k (j7 h k)) e→acZ h k e rows→P (Ka A rows (wY k e) (Gf A h k))))):=id rfl
theorem O7{y:D}:ap (eX A) [y] P=(∃page:List En,y= .lst (page.map b_)∧page.length≤1000∧P (ac0 (jG page))):=id rfl
theorem ail{x:D}{y:D}:ap (pJ A) [x,y] P=(∃b e,x=ac0 b∧y=b_ e∧P (.bl (pA b e))):=id rfl
theorem zJ{x:D}{y:D}{c:D}{d:Int}:ap (gG A) [x,y,c, .int d] P=(∃h k, ∃pages:List (List En), ∃n:Nat,x=nU A pages∧y=aJ A h∧c=eV A k∧d=n∧(okB h∧okK h k∧z_ h pages∧(n:Int)<h.d∧n<pages.length)∧P (.bl (jH h k pages n))):=id rfl
theorem Ve{x:D}{y:D}{c:D}:ap (jP A) [x,y,c] P=(∃h k, ∃pages:List (List En),x=nU A pages∧y=aJ A h∧c=eV A k∧(okB h∧okK h k∧z_ h pages)∧P (lL h k pages)):=id rfl
theorem O8{x:D}{y:D}{c:D}:ap (XH A) [x,y,c] P=(P (.int 0)):=id rfl
theorem Ke{x:D}{y:D}{c:D}:ap (yo A) [x,y,c] P=(∃h k, ∃pages:List (List En), ∃rows t,x=Ka A rows t (nU A pages)∧y=aJ A h∧c=eV A k∧(okB h∧okK h k∧z_ h pages∧okA h rows∧okT h.d k rows)∧((aeT h rows=[]∧FQ k rows rows.length=t∧lL h k pages= .int t)→P (.bl true))∧(¬(aeT h rows=[]∧FQ k rows rows.length=t∧lL h k pages= .int t)→P (.bl false))):=id rfl
theorem BZ{x:D}{y:D}{c:D}:ap (uQ A) [x,y,c] P=(∃h k, ∃pages:List (List En),x=rZ A (nU A pages)∧y=aJ A h∧c=eV A k∧(okB h∧okK h k∧z_ h pages)∧P (.bl (DL.sU (lL h k pages)))):=id rfl
theorem ac5{c:Int}{m:Int}:ap (mO A) [.int c, .int m] P=((0≤m∧m≤7)∧(∀nms:List Tx,nms.length=m.toNat→nms.Nodup→(∀t∈nms,t.length≤8)→P (cR nms))):=id rfl
theorem ac6{c:Int}{m:Int}:ap (mQ A) [.int c, .int m] P=((1≤m∧m≤4)∧(∀w:Tx,w.length=m.toNat→w.Nodup→45∉w→63∉w→P (.str w))):=id rfl
theorem aim{c:Int}{d:Int}{ks:Tx}:ap (tO A) [.int c, .int d, .str ks] P=((1≤ks.length∧ks.length≤4)∧P (.lst ((gR ks c d).map lN))):=id rfl
theorem X3{x:D}{y:D}{d:Int}{z:D}:ap (jh A) [x,y, .int d,z] P=(∃h nms,x=aJ A h∧y=cR nms∧z= .lst (h.lv.map jC)∧(nms.length≤7∧h.l.length≤100∧h.lv.length≤200)∧P (.int (qO h nms d))):=id rfl
theorem ac7{x:D}{y:D}{ks:Tx}{z:D}:ap (lB A) [x,y, .str ks,z] P=(∃ns sorts nms,x=iK ns∧y=iK sorts∧z=cR nms∧((1≤sorts.length∧sorts.length≤10)∧(1≤ks.length∧ks.length≤4∧ks.Nodup∧45∉ks∧63∉ks)∧4≤nms.length∧nms.length≤7∧nms.Nodup∧ ∀t∈nms,t.length≤8)∧(∀h,yq h sorts→h.ks=ks→h.ps.map (·.name)=nms→P (aJ A h))):=id rfl
theorem ac8{x:D}{y:D}:ap (lC A) [x,y] P=(∃ns h sorts,x=iK ns∧y=aJ A h∧yq h sorts∧(∀k,okK h k→(∀(p d:Nat),p<h.ps.length→d<h.d.toNat→wH k p d 45=0)→P (eV A k))):=id rfl
theorem X4{x:D}{c:D}:ap (ji A) [x,c] P=(∃h k,x=aJ A h∧c=eV A k∧(okB h∧okK h k)∧(∃n,n<j7 h k∧qN h k n)∧P (.bl true)):=id rfl
theorem Gj{x:D}{c:D}:ap (dB A) [x,c] P=(∃h k,x=aJ A h∧c=eV A k∧(okB h∧okK h k)∧P (lL h k (pY h))):=id rfl
theorem azH{a:Addr}:(a∈([a]:List Addr))=True:=by simp
theorem azI{a b:Addr}:(a∈([a,b]:List Addr))=True:=by simp
theorem azJ{a b:Addr}:(b∈([a,b]:List Addr))=True:=by simp
theorem azK{a b c:Addr}:(a∈([a,b,c]:List Addr))=True:=by simp
theorem azL{a b c:Addr}:(b∈([a,b,c]:List Addr))=True:=by simp
theorem azM{a b c:Addr}:(c∈([a,b,c]:List Addr))=True:=by simp
theorem azN{a b c d:Addr}:(a∈([a,b,c,d]:List Addr))=True:=by simp
theorem azO{a b c d:Addr}:(b∈([a,b,c,d]:List Addr))=True:=by simp
theorem azP{a b c d:Addr}:(c∈([a,b,c,d]:List Addr))=True:=by simp
theorem azQ{a b c d:Addr}:(d∈([a,b,c,d]:List Addr))=True:=by simp
theorem azR{a b c d e:Addr}:(a∈([a,b,c,d,e]:List Addr))=True:=by simp
theorem azS{a b c d e:Addr}:(b∈([a,b,c,d,e]:List Addr))=True:=by simp
theorem azT{a b c d e:Addr}:(c∈([a,b,c,d,e]:List Addr))=True:=by simp
theorem azU{a b c d e:Addr}:(d∈([a,b,c,d,e]:List Addr))=True:=by simp
theorem azV{a b c d e:Addr}:(e∈([a,b,c,d,e]:List Addr))=True:=by simp
theorem azW{a b c d e f:Addr}:(a∈([a,b,c,d,e,f]:List Addr))=True:=by simp
theorem azX{a b c d e f:Addr}:(b∈([a,b,c,d,e,f]:List Addr))=True:=by simp
theorem azY{a b c d e f:Addr}:(c∈([a,b,c,d,e,f]:List Addr))=True:=by simp
theorem azZ{a b c d e f:Addr}:(d∈([a,b,c,d,e,f]:List Addr))=True:=by simp
theorem az0{a b c d e f:Addr}:(e∈([a,b,c,d,e,f]:List Addr))=True:=by simp
theorem az1{a b c d e f:Addr}:(f∈([a,b,c,d,e,f]:List Addr))=True:=by simp
end
end K67
end
section
set_option maxHeartbeats 0
namespace K67
open PySem L2 DL
theorem tQ:FnScope ["self","p","many"] ["self","p","many"] (defScope uI):=⟨rfl,rfl,rfl,by decide+kernel,rfl,by decide+kernel,by decide+kernel⟩
def uV(A:Ad):DS:=bY (dC (.int 0))
theorem uW:FnScope ["self","p","day","mark"] ["self","p","day","mark"] (defScope wG):=⟨rfl,rfl,rfl,by decide+kernel,rfl,by decide+kernel,by decide+kernel⟩
def wL(A:Ad):DS:=bY (dC (.int 0))
theorem oM:FnScope ["self","p","many"] ["self","p","many"] (defScope pU):=⟨rfl,rfl,rfl,by decide+kernel,rfl,by decide+kernel,by decide+kernel⟩
def pZ(A:Ad):DS:=bY (dOp aci (aX (fun C=>C∈([A.cEvenCosts]:List Addr)) (aq 0) "weight") (dOp acj (dOp fH (dOp dIx (aX (fun C=>C∈([A.cEvenCosts,A.cLevelCosts,A.cPerson]:List Addr)) (aq 0) "carried") (aq 1)) (aq 2)) (dC (.int 2))))
theorem p_:FnScope ["self","p","day","mark","unmet","one","at","marks"] ["self","p","day","mark"] (defScope qL):=⟨rfl,rfl,rfl,by decide+kernel,rfl,by decide+kernel,by decide+kernel⟩
def qP(A:Ad):DS:=aR (bW (dC (.int 0)) (dgN 4))<|
 aR (jr (dIt (aX (fun C=>C∈([A.cEvenCosts,A.cHouse]:List Addr)) (aq 0) "wishes")) (dgT 3 (bz (dgN 5) (bz (dgN 6) (bz (dgN 7) iJ))))
 (fX (sV (cW (dOp dEq (aq 5) (aq 1))) (sV (cW (dOp dEq (aq 6) (aq 2))) (cW (dOp (dIn true) (aq 3) (aq 7)))))
 (bW (dOp fH (aq 4) (dC (.int 1))) (dgN 4))
 (cX)))<|
 bY (aA 4)
theorem mU:FnScope ["self","house","rota"] ["self","house","rota"] (defScope nM):=⟨rfl,rfl,rfl,by decide+kernel,rfl,by decide+kernel,by decide+kernel⟩
def nY(A:Ad):DIn:=fO "rota" (bR k_ (aj (aq 2) (aF)))
theorem nZ:FnScope ["self","p","day","mark"] ["self","p","day","mark"] (defScope oH):=⟨rfl,rfl,rfl,by decide+kernel,rfl,by decide+kernel,by decide+kernel⟩
def oO(A:Ad):DS:=aR (fX (cW (dOp dEq (dOp dIx (dOp dIx (aX (fun C=>C∈([A.cChangeCosts,A.cFound]:List Addr)) (aq 0) "rota") (aq 1)) (aq 2)) (aq 3)))
 (bY (dC (.int 0)))
 (cX))<|
 bY (dC (.int 1))
theorem n_:FnScope ["self","house","level","person"] ["self","house","level"] (defScope jX):=⟨rfl,rfl,rfl,by decide+kernel,rfl,by decide+kernel,by decide+kernel⟩
def oR(A:Ad):DIn:=iH (fO "carried" (dLc [3] (dIt (aX (fun C=>C∈([A.cHouse]:List Addr)) (aq 1) "persons")) (dgN 3) (kZ) (aX (fun C=>C∈([A.cEvenCosts,A.cLevelCosts,A.cPerson]:List Addr)) (aq 3) "carried")))<|fO "level" (aA 2)
theorem ou:FnScope ["self","p","many"] ["self","p","many"] (defScope oJ):=⟨rfl,rfl,rfl,by decide+kernel,rfl,by decide+kernel,by decide+kernel⟩
def oU(A:Ad):DS:=bY (bR Ym (aj (dC (.int 0)) (aj (dOp Mh (dOp fH (dOp dIx (aX (fun C=>C∈([A.cEvenCosts,A.cLevelCosts,A.cPerson]:List Addr)) (aq 0) "carried") (aq 1)) (aq 2)) (aX (fun C=>C∈([A.cLevelCosts]:List Addr)) (aq 0) "level")) (aF))))
theorem wM:FnScope ["house","rota","day","found","person","row"] ["house","rota","day"] (defScope xY):=⟨rfl,rfl,rfl,by decide+kernel,rfl,by decide+kernel,by decide+kernel⟩
def yr(A:Ad):DS:=aR (pM 3 (iW (aF)))<|
 aR (jr (adT (aj (aX (fun C=>C∈([A.cHouse]:List Addr)) (aq 0) "persons") (aj (aA 1) (aF)))) (dgT 2 (bz (dgN 4) (bz (dgN 5) iJ)))
 (fX (sV (cW (dOp dNe (dOp dIx (aq 5) (aq 2)) (dC (.str [45])))) (cW (dOp (dIn true) (dOp dIx (aq 5) (aq 2)) (aX (fun C=>C∈([A.cPerson]:List Addr)) (aq 4) "skills"))))
 (vM 3 (j_ (aj (aA 2) (aj (dC (.str [115,107,105,108,108])) (aj (aX (fun C=>C∈([A.cPerson]:List Addr)) (aq 4) "name") (aj (dOp dIx (aq 5) (aq 2)) (aF)))))))
 (cX)))<|
 zj 3<|bY (aA 3)
theorem wN:FnScope ["house","rota","day","found","person","row"] ["house","rota","day"] (defScope xZ):=⟨rfl,rfl,rfl,by decide+kernel,rfl,by decide+kernel,by decide+kernel⟩
def yt(A:Ad):DS:=aR (pM 3 (iW (aF)))<|
 aR (jr (adT (aj (aX (fun C=>C∈([A.cHouse]:List Addr)) (aq 0) "persons") (aj (aA 1) (aF)))) (dgT 2 (bz (dgN 4) (bz (dgN 5) iJ)))
 (fX (sV (cW (dOp dNe (dOp dIx (aq 5) (aq 2)) (dC (.str [45])))) (cW (dOp (V7 false) (j_ (aj (aX (fun C=>C∈([A.cPerson]:List Addr)) (aq 4) "name") (aj (aA 2) (aF)))) (aX (fun C=>C∈([A.cHouse]:List Addr)) (aq 0) "leave"))))
 (vM 3 (j_ (aj (aA 2) (aj (dC (.str [108,101,97,118,101])) (aj (aX (fun C=>C∈([A.cPerson]:List Addr)) (aq 4) "name") (aj (dOp dIx (aq 5) (aq 2)) (aF)))))))
 (cX)))<|
 zj 3<|bY (aA 3)
theorem yu:FnScope ["house","rota","day","found","person","row","many","mark"] ["house","rota","day"] (defScope ux):=⟨rfl,rfl,rfl,by decide+kernel,rfl,by decide+kernel,by decide+kernel⟩
def Ab(A:Ad):DS:=aR (pM 3 (iW (aF)))<|
 aR (jr (adT (aj (aX (fun C=>C∈([A.cHouse]:List Addr)) (aq 0) "persons") (aj (aA 1) (aF)))) (dgT 2 (bz (dgN 4) (bz (dgN 5) iJ)))
 (aR (bW (bR jw (aj (dLc [7] (dIt (dSl (aq 5) (mZ) (uF (dOp fH (aq 2) (dC (.int 1)))))) (dgN 7) (cW (dOp dNe (aq 7) (dC (.str [45])))) (aA 7)) (aF))) (dgN 6))<|
 fX (sV (cW (dOp dNe (dOp dIx (aq 5) (aq 2)) (dC (.str [45])))) (cW (dOp dGt (aq 6) (aX (fun C=>C∈([A.cHand,A.cPerson]:List Addr)) (aq 4) "most"))))
 (vM 3 (j_ (aj (aA 2) (aj (dC (.str [109,111,115,116])) (aj (aX (fun C=>C∈([A.cPerson]:List Addr)) (aq 4) "name") (aj (aA 6) (aF)))))))
 (cX)))<|
 zj 3<|bY (aA 3)
def aoN(A:Ad):DS:=bY (dC (.int 0))
theorem tR:FnScope ["self","rota","total","paper"] ["self","rota","total","paper"] (defScope uJ):=⟨rfl,rfl,rfl,by decide+kernel,rfl,by decide+kernel,by decide+kernel⟩
def uX(A:Ad):DIn:=iH (fO "rota" (bR k_ (aj (aq 1) (aF))))<|iH (fO "total" (aA 2))<|fO "paper" (aA 3)
theorem qQ:FnScope ["self","paper"] ["self","paper"] (defScope rR):=⟨rfl,rfl,rfl,by decide+kernel,rfl,by decide+kernel,by decide+kernel⟩
def sr(A:Ad):DIn:=fO "paper" (aA 1)
theorem ag9:FnScope ["sign","mark"] ["sign","mark"] (defScope anO):=⟨rfl,rfl,rfl,by decide+kernel,rfl,by decide+kernel,by decide+kernel⟩
def an0(A:Ad):DS:=aR (fX (cW (dOp dEq (aq 0) (dC (.str [63]))))
 (bY (dC (.bl true)))
 (cX))<|
 aR (fX (cW (dOp dEq (aq 0) (dC (.str [35]))))
 (bY (dOp dNe (aq 1) (dC (.str [45]))))
 (cX))<|
 bY (dOp dEq (aq 0) (aq 1))
theorem Vf:FnScope ["marks","many"] ["marks","many"] (defScope YH):=⟨rfl,rfl,rfl,by decide+kernel,rfl,by decide+kernel,by decide+kernel⟩
def YK(A:Ad):DS:=bY (dSl (aq 0) (uF (bR Ym (aj (dC (.int 0)) (aj (dOp Mh (bR jw (aj (aq 0) (aF))) (aq 1)) (aF))))) (mZ))
theorem tU:FnScope ["self","word"] ["self","word"] (defScope uK):=⟨rfl,rfl,rfl,by decide+kernel,rfl,by decide+kernel,by decide+kernel⟩
def uY(A:Ad):DIn:=fO "word" (aA 1)
theorem yw:FnScope ["self"] ["self"] (defScope zX):=⟨rfl,rfl,rfl,by decide+kernel,rfl,by decide+kernel,by decide+kernel⟩
def Ac(A:Ad):DS:=bY (bR jw (aj (aX (fun C=>C∈([A.cNever]:List Addr)) (aq 0) "word") (aF)))
theorem yx:FnScope ["hands","hand"] ["hands"] (defScope pD):=⟨rfl,rfl,rfl,by decide+kernel,rfl,by decide+kernel,by decide+kernel⟩
def Ae(A:Ad):DS:=bY (j_ (aj (bR uw (aj (dLc [1] (dIt (aA 0)) (dgN 1) (kZ) (aX (fun C=>C∈([A.cHand]:List Addr)) (aq 1) "begin")) (aF))) (aj (bR uw (aj (dLc [1] (dIt (aA 0)) (dgN 1) (kZ) (dC (.int 0))) (aF))) (aj (dC (.int 0)) (aF)))))
theorem yz:FnScope ["page","best","tails","numbers","cost"] ["page"] (defScope zY):=⟨rfl,rfl,rfl,by decide+kernel,rfl,by decide+kernel,by decide+kernel⟩
def Af(A:Ad):DS:=aR (Yw 1 (ant))<|
 aR (jr (dIt (aA 0)) (dgT 3 (bz (dgN 2) (bz (dgN 3) (bz (dgN 4) iJ))))
 (acM (dPl 1) (j_ (aj (aA 2) (aj (aA 3) (aF)))) (bR aft (aj (aq 4) (aj (aeE (ahS (dPl 1)) (j_ (aj (aA 2) (aj (aA 3) (aF)))) (aA 4)) (aF))))))<|
 acx 1<|bY (aA 1)
theorem ac9:FnScope ["best","entry","cost"] ["best","entry"] (defScope ag1):=⟨rfl,rfl,rfl,by decide+kernel,rfl,by decide+kernel,by decide+kernel⟩
def aha(A:Ad):DS:=aR (bW (aeD (aq 0) (j_ (aj (dOp dIx (aq 1) (dC (.int 0))) (aj (dOp dIx (aq 1) (dC (.int 1))) (aF))))) (dgN 2))<|
 bY (xF (dOp (Hr true) (aq 2) (dC .non)) (dOp dLe (aq 2) (dOp dIx (aq 1) (dC (.int 2)))))
theorem uZ:FnScope ["self","pages","page"] ["self","pages"] (defScope qw):=⟨rfl,rfl,rfl,by decide+kernel,rfl,by decide+kernel,by decide+kernel⟩
def wO(A:Ad):DIn:=fO "pages" (dLc [2] (dIt (aA 1)) (dgN 2) (kZ) (bR k_ (aj (aq 2) (aF))))
theorem Gk:FnScope ["house","key","ways","rows","person","kept","column","mark","row"] ["house","key","ways"] (defScope tH):=⟨rfl,rfl,rfl,by decide+kernel,rfl,by decide+kernel,by decide+kernel⟩
def Lr(A:Ad):DS:=aR (bW (dLc [4] (dIt (aX (fun C=>C∈([A.cHouse]:List Addr)) (aq 0) "persons")) (dgN 4) (kZ) (dC (.str []))) (dgN 3))<|
 aR (jr (anF (aj (aA 2) (aF))) (dgN 5)
 (aR (bW (agX (aq 5) (aA 1)) (dgT 2 (bz (dgN 1) (bz (dgN 6) iJ))))<|
 bW (dLc [7,8] (adT (aj (aA 6) (aj (aA 3) (aF)))) (dgT 2 (bz (dgN 7) (bz (dgN 8) iJ))) (kZ) (dOp fH (aq 7) (aq 8))) (dgN 3)))<|
 bY (aA 3)
theorem su:FnScope ["self","name","skills","most","carried","past"] ["self","name","skills","most","carried","past"] (defScope tK):=⟨rfl,rfl,rfl,by decide+kernel,rfl,by decide+kernel,by decide+kernel⟩
def tV(A:Ad):DIn:=iH (fO "name" (aA 1))<|iH (fO "skills" (aA 2))<|iH (fO "most" (aA 3))<|iH (fO "carried" (aA 4))<|fO "past" (aA 5)
theorem tW:FnScope ["self","days","kinds","needs","persons","leave","wishes","rules","pairs"] ["self","days","kinds","needs","persons","leave","wishes","rules","pairs"] (defScope uL):=⟨rfl,rfl,rfl,by decide+kernel,rfl,by decide+kernel,by decide+kernel⟩
def u5(A:Ad):DIn:=iH (fO "days" (aA 1))<|iH (fO "kinds" (aA 2))<|iH (fO "needs" (bR k_ (aj (aq 3) (aF))))<|iH (fO "persons" (bR k_ (aj (aq 4) (aF))))<|iH (fO "leave" (bR k_ (aj (aq 5) (aF))))<|iH (fO "wishes" (bR k_ (aj (aq 6) (aF))))<|iH (fO "rules" (bR k_ (aj (aq 7) (aF))))<|fO "pairs" (bR k_ (aj (aq 8) (aF)))
theorem Ag:FnScope ["self","day","kind","at","sort","least","most"] ["self","day","kind"] (defScope Fx):=⟨rfl,rfl,rfl,by decide+kernel,rfl,by decide+kernel,by decide+kernel⟩
def Gm(A:Ad):DS:=aR (jr (dIt (aX (fun C=>C∈([A.cHouse]:List Addr)) (aq 0) "needs")) (dgT 4 (bz (dgN 3) (bz (dgN 4) (bz (dgN 5) (bz (dgN 6) iJ)))))
 (fX (sV (cW (dOp dEq (aq 3) (aq 1))) (cW (dOp dEq (aq 4) (aq 2))))
 (bY (j_ (aj (aA 5) (aj (aA 6) (aF)))))
 (cX)))<|
 bY (j_ (aj (dC (.int 0)) (aj (dC (.int 0)) (aF))))
theorem tX:FnScope ["self","name","p"] ["self","name"] (defScope uM):=⟨rfl,rfl,rfl,by decide+kernel,rfl,by decide+kernel,by decide+kernel⟩
def u6(A:Ad):DS:=aR (jr (jY (aj (bR jw (aj (aX (fun C=>C∈([A.cHouse]:List Addr)) (aq 0) "persons") (aF))) (aF))) (dgN 2)
 (fX (cW (dOp dEq (aX (fun C=>C∈([A.cPerson]:List Addr)) (dOp dIx (aX (fun C=>C∈([A.cHouse]:List Addr)) (aq 0) "persons") (aq 2)) "name") (aq 1)))
 (bY (aA 2))
 (cX)))<|
 aiZ
theorem sE:FnScope ["self","p","found","number","name","rule"] ["self","p"] (defScope tL):=⟨rfl,rfl,rfl,by decide+kernel,rfl,by decide+kernel,by decide+kernel⟩
def tY(A:Ad):DS:=aR (pM 2 (iW (aF)))<|
 aR (jr (jY (aj (bR jw (aj (aX (fun C=>C∈([A.cHand,A.cHouse]:List Addr)) (aq 0) "rules") (aF))) (aF))) (dgN 3)
 (aR (bW (dOp dIx (aX (fun C=>C∈([A.cHand,A.cHouse]:List Addr)) (aq 0) "rules") (aq 3)) (dgT 2 (bz (dgN 4) (bz (dgN 5) iJ))))<|
 fX (V5 (cW (dOp dEq (aq 4) (dC (.str [97,108,108])))) (cW (dOp dEq (aq 4) (aX (fun C=>C∈([A.cPerson]:List Addr)) (dOp dIx (aX (fun C=>C∈([A.cHouse]:List Addr)) (aq 0) "persons") (aq 1)) "name"))))
 (vM 2 (j_ (aj (aA 3) (aj (aA 5) (aF)))))
 (cX)))<|
 zj 2<|bY (aA 2)
theorem Gn:FnScope ["_law_script","_law_k"] ["_law_script","_law_k"] (defScope Ld):=⟨rfl,rfl,rfl,by decide+kernel,rfl,by decide+kernel,by decide+kernel⟩
def Ls(A:Ad):DS:=aR (fX (cW (dOp dLt (aq 1) (bR jw (aj (aq 0) (aF)))))
 (bY (dOp dIx (aq 0) (aq 1)))
 (cX))<|
 bY (dC (.int 0))
theorem Vg:FnScope ["_law_cell","_law_many","_law_some","_law_stem","_law_k","_law_at"] ["_law_cell","_law_many"] (defScope JW):=⟨rfl,rfl,rfl,by decide+kernel,rfl,by decide+kernel,by decide+kernel⟩
def YL(A:Ad):DS:=aR (bW (dC (.str [98,99,100,101,102,103,104,105,106,107,109,110,111,112,113,114,115,116,117,118,119,120,121,122])) (dgN 2))<|
 aR (bW (dC (.str [])) (dgN 3))<|
 aR (jr (jY (aj (dOp mX (aq 0) (dC (.int 8))) (aF))) (dgN 4)
 (bW (dOp fH (aq 3) (dOp dIx (aq 2) (dOp mX (dOp sO (aq 0) (dOp fH (dC (.int 8)) (dOp abl (dC (.int 13)) (aq 4)))) (dC (.int 24))))) (dgN 3)))<|
 aR (bW (dOp mX (dOp sO (aq 0) (dC (.int 8))) (dOp fH (bR jw (aj (aq 3) (aF))) (dC (.int 1)))) (dgN 5))<|
 bY (dLc [4] (jY (aj (aq 1) (aF))) (dgN 4) (kZ) (dOp fH (dOp fH (dSl (aq 3) (mZ) (uF (aA 5))) (dOp dIx (aq 2) (dOp mX (dOp fH (dOp sO (aq 0) (dC (.int 64))) (aq 4)) (dC (.int 24))))) (dSl (aq 3) (uF (aA 5)) (mZ))))
theorem Vh:FnScope ["_law_cell","_law_many","_law_letters","_law_k"] ["_law_cell","_law_many"] (defScope JX):=⟨rfl,rfl,rfl,by decide+kernel,rfl,by decide+kernel,by decide+kernel⟩
def YM(A:Ad):DS:=aR (bW (dC (.str [65,66,67,68,69,70,71,72,73,74,75,76,77,78,79,80,81,82,83,84,85,86,87,88,89,90])) (dgN 2))<|
 bY (ajc (dC (.str [])) (dLc [3] (jY (aj (aq 1) (aF))) (dgN 3) (kZ) (dOp dIx (aq 2) (dOp mX (dOp fH (aq 0) (dOp abl (dC (.int 7)) (aq 3))) (dC (.int 26))))))
theorem ac_:FnScope ["_law_cell","_law_day_here","_law_kinds_here","_law_k","_law_kind"] ["_law_cell","_law_day_here","_law_kinds_here"] (defScope aaK):=⟨rfl,rfl,rfl,by decide+kernel,rfl,by decide+kernel,by decide+kernel⟩
def ahb(A:Ad):DS:=aR (fX (cW (dOp dEq (dOp mX (aq 0) (dC (.int 4))) (dC (.int 0))))
 (bY (iW (aj (j_ (aj (aA 1) (aj (dOp dIx (aq 2) (dC (.int 0))) (aj (dC (.int 8)) (aj (dC (.int 8)) (aF)))))) (aF))))
 (cX))<|
 aR (fX (cW (dOp dEq (dOp mX (aq 0) (dC (.int 4))) (dC (.int 3))))
 (bY (dLc [3,4] (aeL (aj (aA 2) (aF))) (dgT 2 (bz (dgN 3) (bz (dgN 4) iJ))) (kZ) (j_ (aj (aA 1) (aj (aA 4) (aj (dC (.int 0)) (aj (dOp Mh (dC (.int 8)) (aq 3)) (aF))))))))
 (cX))<|
 bY (dSl (iW (aj (j_ (aj (aA 1) (aj (dOp dIx (aq 2) (dUn Mi (dC (.int 1)))) (aj (dC (.int 0)) (aj (dC (.int 0)) (aF)))))) (aF))) (mZ) (uF (dOp Mh (dOp mX (aq 0) (dC (.int 4))) (dC (.int 1)))))
theorem Gp:FnScope ["_law_house_here","_law_names_here","_law_day_here","_law_leave","_law_kinds_here","_law_need","_law_ways","_law_name"] ["_law_house_here","_law_names_here","_law_day_here","_law_leave"] (defScope x_):=⟨rfl,rfl,rfl,by decide+kernel,rfl,by decide+kernel,by decide+kernel⟩
def Lw(A:Ad):DS:=aR (bW (dLc [5] (dIt (aX (fun C=>C∈([A.cHouse]:List Addr)) (aq 0) "needs")) (dgN 5) (sV (cW (dOp dEq (dOp dIx (aq 5) (dC (.int 0))) (aq 2))) (cW (dOp dGt (dOp dIx (aq 5) (dC (.int 3))) (dC (.int 0))))) (dOp dIx (aq 5) (dC (.int 1)))) (dgN 4))<|
 aR (bW (dC (.int 1)) (dgN 6))<|
 aR (jr (dIt (aA 1)) (dgN 7)
 (fX (cW (dOp (V7 true) (j_ (aj (aA 7) (aj (aA 2) (aF)))) (aq 3)))
 (bW (dOp abl (aq 6) (dOp fH (dC (.int 1)) (bR jw (aj (aq 4) (aF))))) (dgN 6))
 (cX)))<|
 bY (aA 6)
theorem Ah:FnScope ["house","day","column","kind","least","most"] ["house","day","column"] (defScope Fy):=⟨rfl,rfl,rfl,by decide+kernel,rfl,by decide+kernel,by decide+kernel⟩
def Gq(A:Ad):DS:=aR (jr (dIt (aX (fun C=>C∈([A.cHouse]:List Addr)) (aq 0) "kinds")) (dgN 3)
 (aR (bW (gj (ye A) "need" (aA 0) (aj (aA 1) (aj (aA 3) (aF)))) (dgT 2 (bz (dgN 4) (bz (dgN 5) iJ))))<|
 fX (V5 (cW (dOp dLt (aav (aq 2) (aq 3)) (aq 4))) (cW (dOp dGt (aav (aq 2) (aq 3)) (aq 5))))
 (bY (dC (.bl false)))
 (cX)))<|
 bY (dC (.bl true))
theorem Ai:FnScope ["house","column","word","name","other","one","same"] ["house","column"] (defScope FJ):=⟨rfl,rfl,rfl,by decide+kernel,rfl,by decide+kernel,by decide+kernel⟩
def Gr(A:Ad):DS:=aR (jr (dIt (aX (fun C=>C∈([A.cHouse]:List Addr)) (aq 0) "pairs")) (dgT 3 (bz (dgN 2) (bz (dgN 3) (bz (dgN 4) iJ))))
 (aR (bW (dOp dIx (aq 1) (gj (jj A) "place_of" (aA 0) (aj (aA 3) (aF)))) (dgN 5))<|
 aR (bW (dOp dEq (dOp dIx (aq 1) (gj (jj A) "place_of" (aA 0) (aj (aA 4) (aF)))) (aq 5)) (dgN 6))<|
 fX (sV (cW (dOp dNe (aq 5) (dC (.str [45])))) (cW (dOp dEq (aq 6) (dOp dEq (aq 2) (dC (.str [97,112,97,114,116]))))))
 (bY (dC (.bl false)))
 (cX)))<|
 bY (dC (.bl true))
theorem oV:FnScope ["self","house","person","name","day","marks"] ["self","house"] (defScope iZ):=⟨rfl,rfl,rfl,by decide+kernel,rfl,by decide+kernel,by decide+kernel⟩
def qb(A:Ad):DIn:=iH (fO "carried" (dLc [2] (dIt (aX (fun C=>C∈([A.cHouse]:List Addr)) (aq 1) "persons")) (dgN 2) (kZ) (aX (fun C=>C∈([A.cEvenCosts,A.cLevelCosts,A.cPerson]:List Addr)) (aq 2) "carried")))<|iH (fO "weight" (dOp fH (bR jw (aj (aX (fun C=>C∈([A.cEvenCosts,A.cHouse]:List Addr)) (aq 1) "wishes") (aF))) (dC (.int 1))))<|fO "wishes" (dLc [3,4,5] (dIt (aX (fun C=>C∈([A.cEvenCosts,A.cHouse]:List Addr)) (aq 1) "wishes")) (dgT 3 (bz (dgN 3) (bz (dgN 4) (bz (dgN 5) iJ)))) (kZ) (j_ (aj (gj (jj A) "place_of" (aA 1) (aj (aA 3) (aF))) (aj (aA 4) (aj (aA 5) (aF))))))
theorem Ly:FnScope ["house","costs","rota","whole","p","many","day","mark"] ["house","costs","rota"] (defScope U3):=⟨rfl,rfl,rfl,by decide+kernel,rfl,by decide+kernel,by decide+kernel⟩
def Vi(A:Ad):DS:=aR (bW (dC (.int 0)) (dgN 3))<|
 aR (jr (jY (aj (bR jw (aj (aq 2) (aF))) (aF))) (dgN 4)
 (aR (bW (dC (.int 0)) (dgN 5))<|
 aR (jr (jY (aj (aX (fun C=>C∈([A.cHouse]:List Addr)) (aq 0) "days") (aF))) (dgN 6)
 (aR (bW (dOp dIx (dOp dIx (aq 2) (aq 4)) (aq 6)) (dgN 7))<|
 aR (bW (dOp fH (aq 3) (gj (o_ A) "of_mark" (aA 1) (aj (aA 4) (aj (aA 6) (aj (aA 7) (aF)))))) (dgN 3))<|
 fX (cW (dOp dNe (aq 7) (dC (.str [45]))))
 (bW (dOp fH (aq 5) (dC (.int 1))) (dgN 5))
 (cX)))<|
 bW (dOp fH (aq 3) (gj (mF A) "of_count" (aA 1) (aj (aA 4) (aj (aA 5) (aF))))) (dgN 3)))<|
 bY (aA 3)
theorem yC:FnScope ["house","rota","day","found","kind","many","row","least","most"] ["house","rota","day"] (defScope uz):=⟨rfl,rfl,rfl,by decide+kernel,rfl,by decide+kernel,by decide+kernel⟩
def Aj(A:Ad):DS:=aR (pM 3 (iW (aF)))<|
 aR (jr (dIt (aX (fun C=>C∈([A.cHouse]:List Addr)) (aq 0) "kinds")) (dgN 4)
 (aR (bW (bR jw (aj (dLc [6] (dIt (aA 1)) (dgN 6) (cW (dOp dEq (dOp dIx (aq 6) (aq 2)) (aq 4))) (aA 6)) (aF))) (dgN 5))<|
 aR (bW (gj (ye A) "need" (aA 0) (aj (aA 2) (aj (aA 4) (aF)))) (dgT 2 (bz (dgN 7) (bz (dgN 8) iJ))))<|
 fX (V5 (cW (dOp dLt (aq 5) (aq 7))) (cW (dOp dGt (aq 5) (aq 8))))
 (vM 3 (j_ (aj (aA 2) (aj (dC (.str [110,101,101,100])) (aj (aA 4) (aj (aA 5) (aF)))))))
 (cX)))<|
 zj 3<|bY (aA 3)
theorem yD:FnScope ["house","rota","day","found","number","word","name","other","one","two"] ["house","rota","day"] (defScope z7):=⟨rfl,rfl,rfl,by decide+kernel,rfl,by decide+kernel,by decide+kernel⟩
def Ak(A:Ad):DS:=aR (pM 3 (iW (aF)))<|
 aR (jr (jY (aj (bR jw (aj (aX (fun C=>C∈([A.cHouse]:List Addr)) (aq 0) "pairs") (aF))) (aF))) (dgN 4)
 (aR (bW (dOp dIx (aX (fun C=>C∈([A.cHouse]:List Addr)) (aq 0) "pairs") (aq 4)) (dgT 3 (bz (dgN 5) (bz (dgN 6) (bz (dgN 7) iJ)))))<|
 aR (bW (dOp dIx (dOp dIx (aq 1) (gj (jj A) "place_of" (aA 0) (aj (aA 6) (aF)))) (aq 2)) (dgN 8))<|
 aR (bW (dOp dIx (dOp dIx (aq 1) (gj (jj A) "place_of" (aA 0) (aj (aA 7) (aF)))) (aq 2)) (dgN 9))<|
 fX (sV (cW (dOp dNe (aq 8) (dC (.str [45])))) (cW (dOp dEq (dOp dEq (aq 8) (aq 9)) (dOp dEq (aq 5) (dC (.str [97,112,97,114,116]))))))
 (vM 3 (j_ (aj (aA 2) (aj (dC (.str [112,97,105,114])) (aj (aA 6) (aj (aA 4) (aF)))))))
 (cX)))<|
 zj 3<|bY (aA 3)
theorem Gu:FnScope ["self","marks","sign","mark"] ["self","marks"] (defScope Le):=⟨rfl,rfl,rfl,by decide+kernel,rfl,by decide+kernel,by decide+kernel⟩
def Lz(A:Ad):DS:=aR (fX (cW (dOp dLt (bR jw (aj (aq 1) (aF))) (bR jw (aj (aX (fun C=>C∈([A.cNever]:List Addr)) (aq 0) "word") (aF)))))
 (bY (dC (.bl false)))
 (cX))<|
 aR (jr (adT (aj (aX (fun C=>C∈([A.cNever]:List Addr)) (aq 0) "word") (aj (cJ (iU A) (aj (aA 1) (aj (bR jw (aj (aX (fun C=>C∈([A.cNever]:List Addr)) (aq 0) "word") (aF))) (aF)))) (aF)))) (dgT 2 (bz (dgN 2) (bz (dgN 3) iJ)))
 (fX (Qs (cW (cJ (yf A) (aj (aA 2) (aj (aA 3) (aF))))))
 (bY (dC (.bl false)))
 (cX)))<|
 bY (dC (.bl true))
theorem LC:FnScope ["self","marks"] ["self","marks"] (defScope U4):=⟨rfl,rfl,rfl,by decide+kernel,rfl,by decide+kernel,by decide+kernel⟩
def Vj(A:Ad):DS:=bY (cJ (iU A) (aj (aA 1) (aj (aX (fun C=>C∈([A.cHand]:List Addr)) (aq 0) "kept") (aF))))
theorem ahc:FnScope ["looked","costs","day","entry","column","tails","numbers","whole","p","lets_by","behind"] ["looked","costs","day","entry","column"] (defScope anP):=⟨rfl,rfl,rfl,by decide+kernel,rfl,by decide+kernel,by decide+kernel⟩
def an1(A:Ad):DS:=aR (pM 5 (iW (aF)))<|
 aR (pM 6 (iW (aF)))<|
 aR (bW (dOp dIx (aq 3) (dC (.int 2))) (dgN 7))<|
 aR (jr (ai4 (aj (aA 0) (aF))) (dgT 2 (bz (dgN 8) (bz (dgN 9) iJ)))
 (aR (bW (aeF (aq 9) (dOp dIx (aq 4) (aq 8))) (dgN 10))<|
 aR (fX (cW (dOp (Hr false) (aq 10) (dC .non)))
 (bY (dC .non))
 (cX))<|
 aR (vM 5 (dOp dIx (aq 10) (dC (.int 0))))<|
 aR (vM 6 (dOp dIx (aq 10) (dC (.int 1))))<|
 bW (dOp fH (aq 7) (gj (o_ A) "of_mark" (aA 1) (aj (aA 8) (aj (aA 2) (aj (dOp dIx (aq 4) (aq 8)) (aF)))))) (dgN 7)))<|
 bY (j_ (aj (bR uw (aj (aq 5) (aF))) (aj (bR uw (aj (aq 6) (aF))) (aj (aA 7) (aF)))))
theorem ada:FnScope ["costs","entry","whole","p","many"] ["costs","entry"] (defScope ag3):=⟨rfl,rfl,rfl,by decide+kernel,rfl,by decide+kernel,by decide+kernel⟩
def ahd(A:Ad):DS:=aR (bW (dOp dIx (aq 1) (dC (.int 2))) (dgN 2))<|
 aR (jr (aeI (aj (dOp dIx (aq 1) (dC (.int 1))) (aF))) (dgT 2 (bz (dgN 3) (bz (dgN 4) iJ)))
 (bW (dOp fH (aq 2) (gj (mF A) "of_count" (aA 0) (aj (aA 3) (aj (aA 4) (aF))))) (dgN 2)))<|
 bY (aA 2)
theorem Gv:FnScope ["self","p","day","person","found","kind"] ["self","p","day"] (defScope Lf):=⟨rfl,rfl,rfl,by decide+kernel,rfl,by decide+kernel,by decide+kernel⟩
def LK(A:Ad):DS:=aR (bW (dOp dIx (aX (fun C=>C∈([A.cHouse]:List Addr)) (aq 0) "persons") (aq 1)) (dgN 3))<|
 aR (fX (cW (dOp (V7 false) (j_ (aj (aX (fun C=>C∈([A.cPerson]:List Addr)) (aq 3) "name") (aj (aA 2) (aF)))) (aX (fun C=>C∈([A.cHouse]:List Addr)) (aq 0) "leave")))
 (bY (dC (.str [])))
 (cX))<|
 aR (bW (dC (.str [])) (dgN 4))<|
 aR (jr (dIt (aX (fun C=>C∈([A.cHouse]:List Addr)) (aq 0) "kinds")) (dgN 5)
 (fX (sV (cW (dOp (dIn false) (aq 5) (aX (fun C=>C∈([A.cPerson]:List Addr)) (aq 3) "skills"))) (cW (dOp dGt (dOp dIx (gj (ye A) "need" (aA 0) (aj (aA 2) (aj (aA 5) (aF)))) (dC (.int 1))) (dC (.int 0)))))
 (bW (dOp fH (aq 4) (aq 5)) (dgN 4))
 (cX)))<|
 bY (aA 4)
theorem tZ:FnScope ["self","p","number","rule"] ["self","p"] (defScope o9):=⟨rfl,rfl,rfl,by decide+kernel,rfl,by decide+kernel,by decide+kernel⟩
def u9(A:Ad):DS:=bY (bR alp (aj (dOp fH (iW (aj (dC (.int 1)) (aF))) (dLc [2,3] (dIt (gj (jL A) "rules_for" (aA 0) (aj (aA 1) (aF)))) (dgT 2 (bz (dgN 2) (bz (dgN 3) iJ))) (kZ) (gj (FT A) "reach" (aA 3) aF))) (aF)))
theorem Gx:FnScope ["self","marks"] ["self","marks"] (defScope Lg):=⟨rfl,rfl,rfl,by decide+kernel,rfl,by decide+kernel,by decide+kernel⟩
def LQ(A:Ad):DS:=ame (ahT (cJ (iU A) (aj (aA 1) (aj (axa (aw9 (fun C=>C∈([A.cHand]:List Addr)) (dPl 0) "kept")) (aF)))))
theorem Vk:FnScope ["house","day","sorts","p","ways","marks","found","longer","column","mark"] ["house","day"] (defScope uN):=⟨rfl,rfl,rfl,by decide+kernel,rfl,by decide+kernel,by decide+kernel⟩
def YQ(A:Ad)(Xc:XC):DS:=aR (bW (dLc [3] (jY (aj (bR jw (aj (aX (fun C=>C∈([A.cHouse]:List Addr)) (aq 0) "persons") (aF))) (aF))) (dgN 3) (kZ) (dOp fH (dC (.str [45])) (gj (YJ A) "may" (aA 0) (aj (aA 3) (aj (aA 1) (aF)))))) (dgN 2))<|
 aR (bW (dC (.int 1)) (dgN 4))<|
 aR (jr (dIt (aA 2)) (dgN 5)
 (bW (dOp abl (aq 4) (bR jw (aj (aq 5) (aF)))) (dgN 4)))<|
 aR (fX (cW (dOp dGt (aq 4) (dC (.int 256))))
 (aau A.cTooWide Xc)
 (cX))<|
 aR (bW (iW (aj (dC (.str [])) (aF))) (dgN 6))<|
 aR (jr (dIt (aA 2)) (dgN 5)
 (aR (bW (iW (aF)) (dgN 7))<|
 aR (jr (dIt (aA 6)) (dgN 8)
 (bW (dOp fH (aq 7) (dLc [9] (dIt (aA 5)) (dgN 9) (kZ) (dOp fH (aq 8) (aq 9)))) (dgN 7)))<|
 bW (aA 7) (dgN 6)))<|
 bY (bR aaw (aj (dLc [8] (dIt (aA 6)) (dgN 8) (sV (cW (cJ (je A) (aj (aA 0) (aj (aA 1) (aj (aA 8) (aF)))))) (cW (cJ (jf A) (aj (aA 0) (aj (aA 8) (aF)))))) (aA 8)) (aF)))
theorem yE:FnScope ["house","rota","day","found","p","person","tail","number","rule"] ["house","rota","day"] (defScope z8):=⟨rfl,rfl,rfl,by decide+kernel,rfl,by decide+kernel,by decide+kernel⟩
def Am(A:Ad):DS:=aR (pM 3 (iW (aF)))<|
 aR (jr (jY (aj (bR jw (aj (aq 1) (aF))) (aF))) (dgN 4)
 (aR (bW (dOp dIx (aX (fun C=>C∈([A.cHouse]:List Addr)) (aq 0) "persons") (aq 4)) (dgN 5))<|
 aR (bW (dSl (dOp fH (aX (fun C=>C∈([A.cPerson]:List Addr)) (aq 5) "past") (dSl (dOp dIx (aq 1) (aq 4)) (mZ) (uF (dOp fH (aq 2) (dC (.int 1)))))) (uF (dUn Mi (dC (.int 7)))) (mZ)) (dgN 6))<|
 jr (dIt (gj (jL A) "rules_for" (aA 0) (aj (aA 4) (aF)))) (dgT 2 (bz (dgN 7) (bz (dgN 8) iJ)))
 (fX (cW (gj (U7 A) "bad" (aA 8) (aj (aA 6) (aF))))
 (vM 3 (j_ (aj (aA 2) (aj (dC (.str [114,117,108,101])) (aj (aX (fun C=>C∈([A.cPerson]:List Addr)) (aq 5) "name") (aj (aA 7) (aF)))))))
 (cX))))<|
 zj 3<|bY (aA 3)
theorem u_:FnScope ["self","house","p","number","rule"] ["self","house","p"] (defScope qC):=⟨rfl,rfl,rfl,by decide+kernel,rfl,by decide+kernel,by decide+kernel⟩
def wQ(A:Ad):DS:=aR (JQ (fun C=>C∈([A.cHand,A.cHouse]:List Addr)) (dPl 0) "rules" (axd (dLc [3,4] (dIt (gj (jL A) "rules_for" (aA 1) (aj (aA 2) (aF)))) (dgT 2 (bz (dgN 3) (bz (dgN 4) iJ))) (kZ) (aA 4))))<|
 aR (JQ (fun C=>C∈([A.cHand]:List Addr)) (dPl 0) "kept" (ahT (dOp Mh (gj (ph A) "reach_of" (aA 1) (aj (aA 2) (aF))) (dC (.int 1)))))<|
 aR (JQ (fun C=>C∈([A.cHand,A.cPerson]:List Addr)) (dPl 0) "most" (ahT (aX (fun C=>C∈([A.cHand,A.cPerson]:List Addr)) (dOp dIx (aX (fun C=>C∈([A.cHouse]:List Addr)) (aq 1) "persons") (aq 2)) "most")))<|
 JQ (fun C=>C∈([A.cHand]:List Addr)) (dPl 0) "begin" (aer A.cHand "cut" 0 [.e (aX (fun C=>C∈([A.cPerson]:List Addr)) (dOp dIx (aX (fun C=>C∈([A.cHouse]:List Addr)) (aq 1) "persons") (aq 2)) "past")] (jM A))
theorem Gy:FnScope ["self","marks","many","rule"] ["self","marks","many"] (defScope Lh):=⟨rfl,rfl,rfl,by decide+kernel,rfl,by decide+kernel,by decide+kernel⟩
def LR(A:Ad):DS:=aR (fX (cW (dOp dGt (aq 2) (aX (fun C=>C∈([A.cHand,A.cPerson]:List Addr)) (aq 0) "most")))
 (bY (dC (.bl false)))
 (cX))<|
 aR (jr (dIt (aX (fun C=>C∈([A.cHand,A.cHouse]:List Addr)) (aq 0) "rules")) (dgN 3)
 (fX (cW (gj (U7 A) "bad" (aA 3) (aj (aA 1) (aF))))
 (bY (dC (.bl false)))
 (cX)))<|
 bY (dC (.bl true))
theorem Vl:FnScope ["_law_script","_law_sorts","_law_kinds_here","_law_names_here","_law_days","_law_needs","_law_day_here","_law_leave","_law_cell","_law_carried","_law_past","_law_persons","_law_name","_law_rules","_law_pairs"] ["_law_script","_law_sorts","_law_kinds_here","_law_names_here"] (defScope JZ):=⟨rfl,rfl,rfl,by decide+kernel,rfl,by decide+kernel,by decide+kernel⟩
def YS(A:Ad):DS:=aR (bW (bR jw (aj (aq 1) (aF))) (dgN 4))<|
 aR (bW (iW (aF)) (dgN 5))<|
 aR (jr (jY (aj (aq 4) (aF))) (dgN 6)
 (bW (dOp fH (aq 5) (cJ (tO A) (aj (dOp dIx (aq 1) (aq 6)) (aj (aA 6) (aj (aA 2) (aF)))))) (dgN 5)))<|
 aR (pM 7 (iW (aF)))<|
 aR (jr (dIt (dSl (aq 0) (uF (dC (.int 14))) (uF (dC (.int 18))))) (dgN 8)
 (vM 7 (j_ (aj (dOp dIx (aq 3) (dOp mX (aq 8) (bR jw (aj (aq 3) (aF))))) (aj (dOp mX (dOp sO (aq 8) (dC (.int 8))) (aq 4)) (aF))))))<|
 aR (bW (dOp mX (cJ (cI A) (aj (aA 0) (aj (dC (.int 2)) (aF)))) (dOp aiO (dC (.int 10)) (dC (.int 39)))) (dgN 9))<|
 aR (bW (dOp dIx (iW (aj (dC (.str [])) (aj (dC (.str [45])) (aj (dOp dIx (aq 2) (dC (.int 0))) (aF))))) (dOp mX (cJ (cI A) (aj (aA 0) (aj (dC (.int 2)) (aF)))) (dC (.int 3)))) (dgN 10))<|
 aR (bW (dLc [12] (dIt (aA 3)) (dgN 12) (kZ) (qH A.cPerson (pW A) (aj (aA 12) (aj (aA 2) (aj (dC (.int 14)) (aj (dOp fH (aq 9) (bR jw (aj (aq 12) (aF)))) (aj (aA 10) (aF)))))))) (dgN 11))<|
 aR (bW (iW (aj (j_ (aj (dOp dIx (iW (aj (dC (.str [97,108,108])) (aj (dOp dIx (aq 3) (dC (.int 0))) (aF)))) (dOp mX (cJ (cI A) (aj (aA 0) (aj (dC (.int 3)) (aF)))) (dC (.int 2)))) (aj (qH A.cNever (tM A) (aj (dOp fH (dOp fH (dOp dIx (aq 2) (dC (.int 0))) (dC (.str [63]))) (dOp dIx (aq 2) (dC (.int 0)))) (aF))) (aF)))) (aF))) (dgN 13))<|
 aR (bW (iW (aj (j_ (aj (dC (.str [97,112,97,114,116])) (aj (dOp dIx (aq 3) (dC (.int 0))) (aj (dOp dIx (aq 3) (dUn Mi (dC (.int 1)))) (aF))))) (aF))) (dgN 14))<|
 zj 7<|aR (fX (cW (dOp dEq (dOp mX (dOp sO (cJ (cI A) (aj (aA 0) (aj (dC (.int 3)) (aF)))) (dC (.int 2))) (dC (.int 3))) (dC (.int 0))))
 (bY (qH A.cHouse (pF A) (aj (aA 4) (aj (aA 2) (aj (aA 5) (aj (aA 11) (aj (aA 7) (aj (iW (aF)) (aj (aA 13) (aj (iW (aF)) (aF)))))))))))
 (cX))<|
 aR (fX (cW (dOp dEq (dOp mX (dOp sO (cJ (cI A) (aj (aA 0) (aj (dC (.int 3)) (aF)))) (dC (.int 2))) (dC (.int 3))) (dC (.int 1))))
 (bY (qH A.cHouse (pF A) (aj (aA 4) (aj (aA 2) (aj (aA 5) (aj (aA 11) (aj (aA 7) (aj (iW (aF)) (aj (iW (aF)) (aj (aA 14) (aF)))))))))))
 (cX))<|
 bY (qH A.cHouse (pF A) (aj (aA 4) (aj (aA 2) (aj (aA 5) (aj (aA 11) (aj (aA 7) (aj (iW (aF)) (aj (aA 13) (aj (aA 14) (aF))))))))))
theorem YT:FnScope ["house","rota","found","day"] ["house","rota"] (defScope acQ):=⟨rfl,rfl,rfl,by decide+kernel,rfl,by decide+kernel,by decide+kernel⟩
def adb(A:Ad):DS:=aR (bW (iW (aF)) (dgN 2))<|
 aR (jr (jY (aj (aX (fun C=>C∈([A.cHouse]:List Addr)) (aq 0) "days") (aF))) (dgN 3)
 (aR (bW (dOp fH (dOp fH (aq 2) (cJ (fY A) (aj (aA 0) (aj (aA 1) (aj (aA 3) (aF)))))) (cJ (fZ A) (aj (aA 0) (aj (aA 1) (aj (aA 3) (aF)))))) (dgN 2))<|
 aR (bW (dOp fH (dOp fH (aq 2) (cJ (ie A) (aj (aA 0) (aj (aA 1) (aj (aA 3) (aF)))))) (cJ (h_ A) (aj (aA 0) (aj (aA 1) (aj (aA 3) (aF)))))) (dgN 2))<|
 bW (dOp fH (dOp fH (aq 2) (cJ (ig A) (aj (aA 0) (aj (aA 1) (aj (aA 3) (aF)))))) (cJ (ir A) (aj (aA 0) (aj (aA 1) (aj (aA 3) (aF)))))) (dgN 2)))<|
 bY (aA 2)
theorem yF:FnScope ["self","tail","before","sorts","found","mark","many"] ["self","tail","before","sorts"] (defScope z9):=⟨rfl,rfl,rfl,by decide+kernel,rfl,by decide+kernel,by decide+kernel⟩
def Ao(A:Ad):DS:=aR (Yw 4 (dD0))<|
 aR (jr (dIt (aA 3)) (dgN 5)
 (aR (bW (dOp fH (aq 2) (bR Ui (aj (dOp dNe (aq 5) (dC (.str [45]))) (aF)))) (dgN 6))<|
 fX (cW (gj (aaT A) "lets" (aA 0) (aj (dOp fH (aq 1) (aq 5)) (aj (aA 6) (aF)))))
 (aaA (dPl 4) (aA 5) (ayc (ahT (j_ (aj (gj (ag6 A) "cut" (aA 0) (aj (dOp fH (aq 1) (aq 5)) (aF))) (aj (aA 6) (aF)))))))
 (cX)))<|
 acx 4<|bY (aA 4)
theorem Vm:FnScope ["_law_script","_law_house_here","_law_cell","_law_person"] ["_law_script","_law_house_here"] (defScope J5):=⟨rfl,rfl,rfl,by decide+kernel,rfl,by decide+kernel,by decide+kernel⟩
def YW(A:Ad):DS:=aR (bW (dOp sO (cJ (cI A) (aj (aA 0) (aj (dC (.int 0)) (aF)))) (dC (.int 512))) (dgN 2))<|
 aR (fX (cW (dOp dEq (dOp mX (aq 2) (dC (.int 3))) (dC (.int 0))))
 (bY (qH A.cEvenCosts (jK A) (aj (aA 1) (aF))))
 (cX))<|
 aR (fX (cW (dOp dEq (dOp mX (aq 2) (dC (.int 3))) (dC (.int 1))))
 (bY (qH A.cChangeCosts (g_ A) (aj (aA 1) (aj (dLc [3] (dIt (aX (fun C=>C∈([A.cHouse]:List Addr)) (aq 1) "persons")) (dgN 3) (kZ) (dOp zU (dC (.str [45])) (aX (fun C=>C∈([A.cHouse]:List Addr)) (aq 1) "days"))) (aF)))))
 (cX))<|
 bY (qH A.cLevelCosts (jc A) (aj (aA 1) (aj (dOp Mh (aX (fun C=>C∈([A.cEvenCosts,A.cLevelCosts,A.cPerson]:List Addr)) (dOp dIx (aX (fun C=>C∈([A.cHouse]:List Addr)) (aq 1) "persons") (dC (.int 0))) "carried") (dC (.int 1))) (aF))))
theorem L_:FnScope ["house","p"] ["house"] (defScope BL):=⟨rfl,rfl,rfl,by decide+kernel,rfl,by decide+kernel,by decide+kernel⟩
def Vn(A:Ad):DS:=bY (dLc [1] (jY (aj (bR jw (aj (aX (fun C=>C∈([A.cHouse]:List Addr)) (aq 0) "persons") (aF))) (aF))) (dgN 1) (kZ) (aej (aei A.cHand (fG A) (aj (aA 0) (aj (aA 1) (aF))))))
theorem adc:FnScope ["house","costs","day","page","found","ways","hands","sorts","p","entry","looked","column","made"] ["house","costs","day","page"] (defScope Qc):=⟨rfl,rfl,rfl,by decide+kernel,rfl,by decide+kernel,by decide+kernel⟩
def ahe(A:Ad)(Xc:XC):DS:=aR (pM 4 (iW (aF)))<|
 aR (bW (o5 (jD A) (aj (aA 0) (aj (aA 2) (aF))) Xc) (dgN 5))<|
 aR (bW (cJ (fU A) (aj (aA 0) (aF))) (dgN 6))<|
 aR (bW (dLc [8] (jY (aj (bR jw (aj (aq 6) (aF))) (aF))) (dgN 8) (kZ) (dOp fH (dC (.str [45])) (gj (YJ A) "may" (aA 0) (aj (aA 8) (aj (aA 2) (aF)))))) (dgN 7))<|
 aR (jr (dIt (aA 3)) (dgN 9)
 (aR (bW (dLc [8] (jY (aj (bR jw (aj (aq 6) (aF))) (aF))) (dgN 8) (kZ) (gj (Ge A) "looked" (dOp dIx (aq 6) (aq 8)) (aj (dOp dIx (dOp dIx (aq 9) (dC (.int 0))) (aq 8)) (aj (dOp dIx (dOp dIx (aq 9) (dC (.int 1))) (aq 8)) (aj (dOp dIx (aq 7) (aq 8)) (aF)))))) (dgN 10))<|
 jr (dIt (aA 5)) (dgN 11)
 (aR (bW (cJ (ym A) (aj (aA 10) (aj (aA 1) (aj (aA 2) (aj (aA 9) (aj (aA 11) (aF))))))) (dgN 12))<|
 fX (cW (dOp (Hr true) (aq 12) (dC .non)))
 (vM 4 (j_ (aj (aA 9) (aj (aA 11) (aj (aA 12) (aF))))))
 (cX))))<|
 zj 4<|bY (aA 4)
theorem sG:FnScope ["self","house","costs","day","best","made","before","column","entry"] ["self","house","costs","day"] (defScope nO):=⟨rfl,rfl,rfl,by decide+kernel,rfl,by decide+kernel,by decide+kernel⟩
def t7(A:Ad):DS:=aR (fX (cW (dOp dGe (dOp fH (aq 3) (dC (.int 1))) (bR jw (aj (aX (fun C=>C∈([A.cBook]:List Addr)) (aq 0) "pages") (aF)))))
 (bY (dC (.bl false)))
 (cX))<|
 aR (bW (cJ (eX A) (aj (dOp dIx (aX (fun C=>C∈([A.cBook]:List Addr)) (aq 0) "pages") (dOp fH (aq 3) (dC (.int 1)))) (aF))) (dgN 4))<|
 aR (alX (kW A) (fun Xc=>bW (o5 (pH A) (aj (aA 1) (aj (aA 2) (aj (aA 3) (aj (dOp dIx (aX (fun C=>C∈([A.cBook]:List Addr)) (aq 0) "pages") (aq 3)) (aF))))) Xc) (dgN 5))
 (fun C=>bY (dC (.bl false))))<|
 bY (bR ajb (aj (dLc [6,7,8] (dIt (aA 5)) (dgT 3 (bz (dgN 6) (bz (dgN 7) (bz (dgN 8) iJ)))) (kZ) (cJ (pJ A) (aj (aA 4) (aj (aA 8) (aF))))) (aF)))
theorem yG:FnScope ["house","costs","day","page","best","ways","entry","column","made","key","cost"] ["house","costs","day","page"] (defScope uA):=⟨rfl,rfl,rfl,by decide+kernel,rfl,by decide+kernel,by decide+kernel⟩
def Aq(A:Ad)(Xc:XC):DS:=aR (Yw 4 (ant))<|
 aR (Yw 5 (ant))<|
 aR (jr (dIt (o5 (pH A) (aj (aA 0) (aj (aA 1) (aj (aA 2) (aj (aA 3) (aF))))) Xc)) (dgT 3 (bz (dgN 6) (bz (dgN 7) (bz (dgN 8) iJ))))
 (aR (bW (j_ (aj (dOp dIx (aq 8) (dC (.int 0))) (aj (dOp dIx (aq 8) (dC (.int 1))) (aF)))) (dgN 9))<|
 fX (V5 (anu true (aA 9) (ahS (dPl 4))) (cW (dOp dLt (dOp dIx (aq 8) (dC (.int 2))) (agX (ahS (dPl 4)) (aA 9)))))
 (aR (acM (dPl 4) (aA 9) (dOp dIx (aq 8) (dC (.int 2))))<|
 acM (dPl 5) (aA 9) (j_ (aj (j_ (aj (dOp dIx (aq 6) (dC (.int 0))) (aj (dOp dIx (aq 6) (dC (.int 1))) (aF)))) (aj (aA 7) (aF)))))
 (cX)))<|
 aR (fX (cW (dOp dGt (anx (ahS (dPl 4))) (dC (.int 300))))
 (aau A.cTooWide Xc)
 (cX))<|
 acx 5<|bY (j_ (aj (aeG (azm 4 [9,10] (dgT 2 (bz (dgN 9) (bz (dgN 10) iJ))) (kZ) (j_ (aj (dOp dIx (aq 9) (dC (.int 0))) (aj (dOp dIx (aq 9) (dC (.int 1))) (aj (aA 10) (aF))))))) (aj (aA 5) (aF))))
theorem Av:FnScope ["self","house","costs","day","entry"] ["self","house","costs"] (defScope vX):=⟨rfl,rfl,rfl,by decide+kernel,rfl,by decide+kernel,by decide+kernel⟩
def Gz(A:Ad):DS:=aR (fX (V5 (cW (dOp dEq (aX (fun C=>C∈([A.cBook]:List Addr)) (aq 0) "pages") (iW (aF)))) (Qs (cW (cJ (pJ A) (aj (cJ (eX A) (aj (dOp dIx (aX (fun C=>C∈([A.cBook]:List Addr)) (aq 0) "pages") (dC (.int 0))) (aF))) (aj (cJ (dY A) (aj (cJ (fU A) (aj (aA 1) (aF))) (aF))) (aF)))))))
 (bY (dC (.int 0)))
 (cX))<|
 aR (jr (jY (aj (aX (fun C=>C∈([A.cHouse]:List Addr)) (aq 1) "days") (aF))) (dgN 3)
 (aR (fX (cW (dOp dEq (dOp dIx (aX (fun C=>C∈([A.cBook]:List Addr)) (aq 0) "pages") (aq 3)) (iW (aF))))
 (bY (dC .non))
 (cX))<|
 fX (Qs (cW (gj (qX A) "carried_on" (aA 0) (aj (aA 1) (aj (aA 2) (aj (aA 3) (aF)))))))
 (bY (dC (.int 0)))
 (cX)))<|
 bY (aeJ (dLc [4] (dIt (dOp dIx (aX (fun C=>C∈([A.cBook]:List Addr)) (aq 0) "pages") (aX (fun C=>C∈([A.cHouse]:List Addr)) (aq 1) "days"))) (dgN 4) (kZ) (cJ (lX A) (aj (aA 2) (aj (aA 4) (aF))))) (dC .non))
theorem vf:FnScope ["house","costs","pages","ways","page","kept","last"] ["house","costs"] (defScope cA):=⟨rfl,rfl,rfl,by decide+kernel,rfl,by decide+kernel,by decide+kernel⟩
def qG(A:Ad)(Xc:XC):DS:=aR (pM 2 (iW (aj (iW (aj (cJ (dY A) (aj (cJ (fU A) (aj (aA 0) (aF))) (aF))) (aF))) (aF))))<|
 aR (pM 3 (iW (aF)))<|
 aR (adS (sV (cW (dOp dLe (bR jw (aj (aq 2) (aF))) (aX (fun C=>C∈([A.cHouse]:List Addr)) (aq 0) "days"))) (cW (dOp dNe (dOp dIx (aq 2) (dUn Mi (dC (.int 1)))) (iW (aF)))))
 (aR (bW (o5 (fW A) (aj (aA 0) (aj (aA 1) (aj (bR jw (aj (aq 3) (aF))) (aj (dOp dIx (aq 2) (dUn Mi (dC (.int 1)))) (aF))))) Xc) (dgT 2 (bz (dgN 4) (bz (dgN 5) iJ))))<|
 aR (vM 2 (aA 4))<|
 vM 3 (aA 5)))<|
 zj 2<|aR (fX (cW (dOp dEq (dOp dIx (aq 2) (dUn Mi (dC (.int 1)))) (iW (aF))))
 (bY (qH A.cWithout (lw A) (aj (qH A.cBook (qF A) (aj (aA 2) (aF))) (aF))))
 (cX))<|
 aR (bW (Fv (dOp dIx (aq 2) (dUn Mi (dC (.int 1)))) (cJ (lX A) (aj (aA 1) (aj (aA 7) (aF))))) (dgN 6))<|
 zj 3<|bY (qH A.cFound (qW A) (aj (cJ (jg A) (aj (aA 0) (aj (j_ (aj (dOp dIx (aq 6) (dC (.int 0))) (aj (dOp dIx (aq 6) (dC (.int 1))) (aF)))) (aj (aA 3) (aF))))) (aj (cJ (lX A) (aj (aA 1) (aj (aA 6) (aF)))) (aj (qH A.cBook (qF A) (aj (aA 2) (aF))) (aF)))))
def an2(A:Ad):DS:=aR (fX (V5 (cW (dOp dNe (cJ (rY A) (aj (aA 1) (aj (aX (fun C=>C∈([A.cChangeCosts,A.cFound]:List Addr)) (aq 0) "rota") (aF)))) (iW (aF)))) (cW (dOp dNe (cJ (jk A) (aj (aA 1) (aj (aA 2) (aj (aX (fun C=>C∈([A.cChangeCosts,A.cFound]:List Addr)) (aq 0) "rota") (aF))))) (aX (fun C=>C∈([A.cFound]:List Addr)) (aq 0) "total"))))
 (bY (dC (.bl false)))
 (cX))<|
 bY (dOp dEq (gj (qY A) "floor" (aX (fun C=>C∈([A.cFound,A.cWithout]:List Addr)) (aq 0) "paper") (aj (aA 1) (aj (aA 2) (aF)))) (aX (fun C=>C∈([A.cFound]:List Addr)) (aq 0) "total"))
def ain(A:Ad):DS:=bY (dOp (Hr false) (gj (qY A) "floor" (aX (fun C=>C∈([A.cFound,A.cWithout]:List Addr)) (aq 0) "paper") (aj (aA 1) (aj (aA 2) (aF)))) (dC .non))
theorem GD:FnScope ["_law_house_here","_law_costs_here","e"] ["_law_house_here","_law_costs_here"] (defScope Lj):=⟨rfl,rfl,rfl,by decide+kernel,rfl,by decide+kernel,by decide+kernel⟩
def Ma(A:Ad):DS:=aR (alw (d_ A) 2 (fun Xc=>aiY (o5 (cC A) (aj (aA 0) (aj (aA 1) (aF))) Xc))
 (fun a C=>bY (xF (ap9 (aeM A) (anQ A) a C (aA 2) (dC (.fn A.cTooWide))) (aiW (ap9 (aeM A) (anQ A) a C (aA 2) (dC (.fn A.cFaulty)))))))<|
 bY (dC (.bl false))
theorem vg:FnScope ["_law_house_here","_law_costs_here","_law_reaches","_law_p","_law_pages","_law_day_here","_law_tails","_law_marks"] ["_law_house_here","_law_costs_here"] (defScope lW):=⟨rfl,rfl,rfl,by decide+kernel,rfl,by decide+kernel,by decide+kernel⟩
def wR(A:Ad):DS:=aR (bW (dLc [3] (jY (aj (bR jw (aj (aX (fun C=>C∈([A.cHouse]:List Addr)) (aq 0) "persons") (aF))) (aF))) (dgN 3) (kZ) (dOp Mh (gj (ph A) "reach_of" (aA 0) (aj (aA 3) (aF))) (dC (.int 1)))) (dgN 2))<|
 aR (pM 4 (iW (aF)))<|
 aR (jr (jY (aj (dOp fH (aX (fun C=>C∈([A.cHouse]:List Addr)) (aq 0) "days") (dC (.int 1))) (aF))) (dgN 5)
 (aR (pM 6 (iW (aF)))<|
 aR (jr (jY (aj (bR jw (aj (aq 2) (aF))) (aF))) (dgN 3)
 (aR (bW (dOp fH (aX (fun C=>C∈([A.cPerson]:List Addr)) (dOp dIx (aX (fun C=>C∈([A.cHouse]:List Addr)) (aq 0) "persons") (aq 3)) "past") (dOp zU (dC (.str [45])) (aq 5))) (dgN 7))<|
 vM 6 (dSl (aq 7) (uF (bR Ym (aj (dC (.int 0)) (aj (dOp Mh (bR jw (aj (aq 7) (aF))) (dOp dIx (aq 2) (aq 3))) (aF))))) (mZ))))<|
 vM 4 (iW (aj (j_ (aj (bR uw (aj (aq 6) (aF))) (aj (bR uw (aj (dLc [3] (dIt (aA 2)) (dgN 3) (kZ) (dC (.int 0))) (aF))) (aj (dC (.int 0)) (aF))))) (aF)))))<|
 zj 4<|bY (gj (qY A) "floor" (qH A.cBook (qF A) (aj (aA 4) (aF))) (aj (aA 0) (aj (aA 1) (aF))))
theorem an3:FnScope ["_law_script","_law_cell","_law_kinds_here","_law_names_here","_law_sorts","_law_k","_law_number","_law_house_here","_law_costs_here","_law_day_here","_law_ways","_law_answer","_law_name","_law_floor"] ["_law_script"] (defScope yc):=⟨rfl,rfl,rfl,by decide+kernel,rfl,by decide+kernel,by decide+kernel⟩
def avk(A:Ad):DS:=aR (bW (cJ (cI A) (aj (aA 0) (aj (dC (.int 0)) (aF)))) (dgN 1))<|
 aR (bW (cJ (mQ A) (aj (cJ (cI A) (aj (aA 0) (aj (dC (.int 1)) (aF)))) (aj (dOp fH (dC (.int 1)) (dOp mX (aq 1) (dC (.int 4)))) (aF)))) (dgN 2))<|
 aR (bW (cJ (mO A) (aj (cJ (cI A) (aj (aA 0) (aj (dC (.int 1)) (aF)))) (aj (dOp fH (dC (.int 4)) (dOp mX (dOp sO (aq 1) (dC (.int 4))) (dC (.int 4)))) (aF)))) (dgN 3))<|
 aR (bW (dLc [5] (jY (aj (dOp fH (dC (.int 1)) (dOp mX (dOp sO (aq 1) (dC (.int 32))) (dC (.int 10)))) (aF))) (dgN 5) (kZ) (cJ (cI A) (aj (aA 0) (aj (dOp fH (dC (.int 4)) (aq 5)) (aF))))) (dgN 4))<|
 aR (fX (cW (dOp dEq (dOp mX (dOp sO (aq 1) (dC (.int 320))) (dC (.int 2))) (dC (.int 0))))
 (bW (dOp fH (dLc [6] (dIt (dSl (aq 4) (mZ) (uF (dUn Mi (dC (.int 1)))))) (dgN 6) (kZ) (dOp fH (dC (.int 1)) (dOp mX (dOp mX (aq 6) (dC (.int 4))) (dC (.int 3))))) (iW (aj (dC (.int 3)) (aF)))) (dgN 4))
 (cX))<|
 aR (bW (cJ (lB A) (aj (aA 0) (aj (aA 4) (aj (aA 2) (aj (aA 3) (aF)))))) (dgN 7))<|
 aR (bW (cJ (lC A) (aj (aA 0) (aj (aA 7) (aF)))) (dgN 8))<|
 aR (jr (jY (aj (bR jw (aj (aq 4) (aF))) (aF))) (dgN 9)
 (aR (bW (cJ (jh A) (aj (aA 7) (aj (aA 3) (aj (aA 9) (aj (aX (fun C=>C∈([A.cHouse]:List Addr)) (aq 7) "leave") (aF)))))) (dgN 10))<|
 aR (fX (cW (dOp dEq (dOp mX (dOp dIx (aq 4) (aq 9)) (dC (.int 4))) (dC (.int 0))))
 (aR (bW (o5 (cC A) (aj (aA 7) (aj (aA 8) (aF))) noX) (dgN 11))<|
 bY (xF (bR (Ug (aaL A)) (aj (aq 11) (aj (dC (.fn A.cWithout)) (aF)))) (dOp (Hr false) (gj (qY A) "floor" (aX (fun C=>C∈([A.cFound,A.cWithout]:List Addr)) (aq 11) "paper") (aj (aA 7) (aj (aA 8) (aF)))) (dC .non))))
 (cX))<|
 aR (fX (cW (dOp dGt (aq 10) (dC (.int 256))))
 (bY (xF (cJ (ji A) (aj (aA 7) (aj (aA 8) (aF)))) (dOp dEq (cJ (dB A) (aj (aA 7) (aj (aA 8) (aF)))) (dC (.int 0)))))
 (cX))<|
 fX (cW (dOp dGt (aq 10) (dC (.int 1))))
 (bY (dOp (dIn false) (dOp zU (dC (.str [45])) (bR jw (aj (aq 3) (aF)))) (o5 (jD A) (aj (aA 7) (aj (aA 9) (aF))) noX)))
 (cX)))<|
 aR (bW (o5 (cC A) (aj (aA 7) (aj (aA 8) (aF))) noX) (dgN 11))<|
 aR (fX (V5 (Qs (cW (bR (Ug (aaL A)) (aj (aq 11) (aj (dC (.fn A.cFound)) (aF)))))) (cW (dOp dNe (aX (fun C=>C∈([A.cChangeCosts,A.cFound]:List Addr)) (aq 11) "rota") (dLc [12] (dIt (aA 3)) (dgN 12) (kZ) (dOp zU (dC (.str [45])) (bR jw (aj (aq 4) (aF))))))))
 (bY (dC (.bl false)))
 (cX))<|
 aR (bW (cJ (dB A) (aj (aA 7) (aj (aA 8) (aF)))) (dgN 13))<|
 bY (xF (dOp dEq (aX (fun C=>C∈([A.cFound]:List Addr)) (aq 11) "total") (cJ (jk A) (aj (aA 7) (aj (aA 8) (aj (aX (fun C=>C∈([A.cChangeCosts,A.cFound]:List Addr)) (aq 11) "rota") (aF)))))) (dOp dEq (aq 13) (aX (fun C=>C∈([A.cFound]:List Addr)) (aq 11) "total")))
end K67
end
section
set_option maxHeartbeats 0
local macro_rules| `(tactic|walk_at "dl0")=> `(tactic|simp only [DL.bM,DL.lU,DL.slM,List.map_cons,List.map_nil,List.length_cons,List.length_nil,List.replicate_succ,List.replicate_zero,List.cons_append,List.nil_append,Nat.reduceAdd,Nat.reduceSub,Nat.zero_add,Nat.sub_self])
local macro_rules| `(tactic|walk_at "dg0")=> `(tactic|simp only [DL.xR,DL.amA,DL.amB,DL.amC,DL.Yy,DL.Yz,DL.YB,Nat.reduceAdd,List.length_cons,List.length_nil,List.replicate_succ,List.replicate_zero,List.cons_append,List.nil_append,Nat.reduceSub,Nat.zero_add,Nat.sub_self])
local macro_rules| `(tactic|walk_at "dl")=> `(tactic|simp only [↓DL.ajy, ↓DL.ajz, ↓DL.afA, ↓DL.abv, ↓DL.at7, ↓DL.at8, ↓DL.afB, ↓DL.q_c, ↓DL.aA6, ↓DL.ajA, ↓DL.ajB, ↓DL.aA7, ↓DL.at9, ↓DL.abw, ↓DL.abx, ↓DL.aby, ↓DL.aua, ↓DL.aub, ↓DL.auc, ↓DL.ajC, ↓DL.aud, ↓DL.aue, ↓DL.afC, ↓DL.afD, ↓DL.afE, ↓DL.abz, ↓DL.abA, ↓DL.afF, ↓DL.afG, ↓DL.afH, ↓DL.abB, ↓DL.abC, ↓DL.aA8, ↓DL.aA9, ↓DL.aA_, ↓DL.aBa, ↓DL.auf, ↓DL.ajD, ↓DL.CP, ↓DL.CQ, ↓DL.CT, ↓DL.CV, ↓DL.auh, ↓DL.ajE, ↓DL.aui, ↓DL.ajF, ↓DL.auj, ↓DL.aBb, ↓DL.ajG, ↓DL.ajH, ↓DL.auk, ↓DL.aul, ↓DL.ajI, ↓DL.ajJ, ↓DL.aum, ↓DL.aBc, ↓DL.abD, ↓DL.afI, ↓DL.ajK, ↓DL.afJ, ↓DL.ajL, ↓DL.aun, ↓DL.abE, ↓DL.afK, ↓DL.ajM, ↓DL.ajN, ↓DL.aBd, ↓DL.auo, ↓DL.ajO, ↓DL.aup, ↓DL.auq, ↓DL.ajP, ↓DL.abF, ↓DL.abG, ↓DL.aur, ↓DL.ajQ, ↓DL.aus, ↓DL.afL, ↓DL.ajR, ↓DL.ajS, ↓DL.ajT, ↓DL.ajU, ↓DL.abH, ↓DL.afM, ↓DL.afN, ↓DL.ajV, ↓DL.aBe, ↓DL.ajW, ↓DL.ajX, ↓DL.ajY, ↓DL.afO, ↓DL.afP, ↓DL.ajZ, ↓DL.aj0, ↓DL.aj1, ↓DL.aBf, ↓DL.afQ, ↓DL.afR, ↓DL.aut, ↓DL.aj2, ↓DL.auu, ↓DL.aj3, ↓DL.afS, ↓DL.aj4, ↓DL.auv, ↓DL.aj5, ↓DL.auw, ↓DL.auy, ↓DL.auz, ↓DL.aj6, ↓DL.auA, ↓DL.afT, ↓DL.aBg, ↓DL.aj7, ↓DL.auB, ↓DL.afU, ↓DL.afV, ↓DL.afW, ↓DL.aj8, ↓DL.afX, ↓DL.afY, ↓DL.afZ, ↓DL.af0, ↓DL.aj9, ↓DL.auC, ↓DL.aj_, ↓DL.auD, ↓DL.auE, ↓DL.aka, ↓DL.akb, ↓DL.auF, ↓DL.akc, ↓DL.akd, ↓DL.ake, ↓DL.auG, ↓DL.aBh, ↓DL.af1, ↓DL.aki, ↓DL.af2, ↓DL.af3, ↓DL.akj, ↓DL.af4, ↓DL.af5, ↓DL.af6, ↓DL.af7, ↓DL.auH, ↓DL.akk, ↓DL.af8, ↓DL.akl, ↓DL.af9, ↓DL.akm, ↓DL.auI, ↓DL.akn, ↓DL.auJ, ↓DL.aBi, ↓DL.auK, ↓DL.ako, ↓DL.akp, ↓DL.af_, ↓DL.aga, ↓DL.akq, ↓DL.abK, ↓DL.abL, ↓DL.agb, ↓DL.agc, ↓DL.agd, ↓DL.akr, ↓DL.auL, ↓DL.aks, ↓DL.auM, ↓DL.akt, ↓DL.auN, ↓DL.aku, ↓DL.akv, ↓DL.auO, ↓DL.abM, ↓DL.abN, ↓DL.auP, ↓DL.akx, ↓DL.auQ, ↓DL.abO, ↓DL.abP, ↓DL.abQ, ↓DL.abR, ↓DL.aky, ↓DL.age, ↓DL.auR, ↓DL.agf, ↓DL.akz, ↓DL.abS, ↓DL.abT, ↓DL.auS, ↓DL.auT, ↓DL.agg, ↓DL.akA, ↓DL.agh, ↓DL.agi, ↓DL.agj, ↓DL.akB, ↓DL.akC, ↓DL.akD, ↓DL.akE, ↓DL.auU, ↓DL.auV, ↓DL.auW, ↓DL.abU, ↓DL.auX, ↓DL.akF, ↓DL.agk, ↓DL.akG, ↓DL.akH, ↓DL.akI, ↓DL.abV, ↓DL.abW, ↓DL.akJ, ↓DL.agl, ↓DL.akK, ↓DL.auY, ↓DL.agm, ↓DL.agn, ↓DL.ago, ↓DL.akL, ↓DL.Py, ↓DL.yS, ↓DL.yU, ↓DL.vO, ↓DL.CW, ↓DL.yV,DL.Py,DL.yS,DL.yU,DL.vO,DL.CW,DL.yV,DL.akM,DL.agp,DL.agq,DL.agr,DL.ags,DL.agt,DL.agu,DL.abX,DL.abY,DL.abZ,DL.abI,DL.abJ,DL.akf,DL.akg,DL.akh,DL.yR,DL.uG,DL.abr,DL.kb1,DL.kb2,DL.kb3,DL.kb4,DL.kb5,DL.kb6,DL.kb7,DL.kb8,DL.kb9,DL.aAB,DL.aAC,DL.aAD,Bool.not_true,Bool.not_false,decide_true,decide_false,true_and])
local macro_rules| `(tactic|walk_at "dq")=> `(tactic|simp only [K67.iK,K67.cR,K67.eU,K67.aeW,K67.aig,K67.BV,K67.BW,K67.Gg,K67.v7,K67.wZ,K67.uR,K67.uU,K67.XJ,K67.Ox,K67.Va,K67.XM,K67.aaV,K67.Vb,K67.XN,K67.anW,K67.ac2,K67.aih,K67.XQ,K67.Oz,K67.zH,K67.Kc,K67.Kd,K67.OD,K67.OJ,K67.O2,K67.O3,K67.aeX,K67.ac3,K67.Vc,K67.Vd,K67.BX,K67.Gh,K67.XR,K67.aaW,K67.XS,K67.O4,K67.aaX,K67.O5,K67.anY,K67.aii,K67.aij,K67.O6,K67.XX,K67.anZ,K67.aik,K67.ac4,K67.Gi,K67.O7,K67.ail,K67.zJ,K67.Ve,K67.O8,K67.Ke,K67.BZ,K67.ac5,K67.ac6,K67.aim,K67.X3,K67.ac7,K67.ac8,K67.X4,K67.Gj,K67.azH,K67.azI,K67.azJ,K67.azK,K67.azL,K67.azM,K67.azN,K67.azO,K67.azP,K67.azQ,K67.azR,K67.azS,K67.azT,K67.azU,K67.azV,K67.azW,K67.azX,K67.azY,K67.azZ,K67.az0,K67.az1,K67.acW,List.lookup,true_and,beq_self_eq_true,DL.V8,DL.V9,DL.V_,DL.Wb,DL.QQ,DL.QR,DL.Hv,DL.Hw,DL.wC,DL.Mp,DL.wF,DL.Mq,DL.Mr,DL.Ms,DL.tE,DL.CZ,DL.C_,DL.Dc,DL.Dd,DL.De,DL.Wc,DL.Wd,DL.We,DL.Wf,DL.Wg,DL.Wh,DL.Wi,DL.Wj,DL.Mu,DL.Mv,DL.Wk,DL.Wl,DL.QS,DL.QT,DL.Wm,DL.Wn,DL.ZD,DL.ZF,DL.Wo,DL.Wq,DL.Wr,DL.Ws,DL.QV,DL.QW,DL.QX,DL.QZ,DL.Q3,DL.Q4,DL.Hz,DL.HD,DL.Q5,DL.Q6,DL.Mw,DL.Mx,DL.Wt,DL.Wu,DL.Q7,DL.Q8,DL.Q9,DL.Q_,DL.Ra,DL.Rb,DL.HF,DL.HH,DL.Rc,DL.Rf,DL.Mz,DL.MF,DL.HJ,DL.HQ,DL.Wv,DL.Ww,DL.MJ,DL.MK,DL.ZG,DL.ZJ,DL.ZK,DL.ZL,DL.ZM,DL.ZP,DL.Wx,DL.Wy,DL.Rg,DL.Ri,DL.MN,DL.MP,DL.ZQ,DL.ZR,DL.ZS,DL.ZV,DL.Rj,DL.Rk,DL.Wz,DL.WD,DL.Rm,DL.Ro,DL.Rp,DL.Rq,DL.Rr,DL.Ru,DL.HR,DL.HS,DL.Rv,DL.Rx,DL.MT,DL.M3,DL.WF,DL.WK,DL.Ry,DL.Rz,DL.RB,DL.RD,DL.RG,DL.RJ,DL.HW,DL.HX,DL.RK,DL.RL,DL.M4,DL.M5,DL.WL,DL.WM,DL.RM,DL.RN,DL.M6,DL.M7,DL.ZW,DL.ZX,DL.ZZ,DL.Z0,DL.RP,DL.RQ,DL.M8,DL.M9,DL.HY,DL.H_,DL.Ib,DL.Ie,DL.Ig,DL.Ih,DL.Ii,DL.Ij,DL.Ik,DL.Il,DL.Df,DL.Dg,DL.WN,DL.WP,DL.WQ,DL.WR,DL.RW,DL.RX,DL.WT,DL.WW,DL.WY,DL.W0,DL.R6,DL.R7,DL.R8,DL.R9,DL.W3,DL.W4,DL.R_,DL.Sd,DL.Sh,DL.Sq,DL.Im,DL.Io,DL.M_,DL.Nb,DL.Dh,DL.Di,DL.Ss,DL.Su,DL.Sv,DL.Sw,DL.Sy,DL.SJ,DL.SM,DL.SN,DL.W6,DL.W7,DL.Dj,DL.Dk,DL.Ip,DL.Ir,DL.Dm,DL.Do,DL.SQ,DL.S7,DL.Nf,DL.Nh,DL.Nk,DL.Nm,DL.Np,DL.Nq,DL.Nr,DL.Nt,DL.Dq,DL.Dr,DL.Nu,DL.Nv,DL.Iu,DL.Iv,DL.Z3,DL.S8,DL.ab2,DL.ab3,DL.Z4,DL.Z5,DL.Z6,DL.ab4,DL.ab5,DL.Z7,DL.Z8,DL.Z9,DL.Z_,DL.ab6,DL.S9,DL.ab7,DL.aaa,DL.W8,DL.aab,DL.W9,DL.W_,DL.KZ,DL.S_,DL.Iw,DL.Xa,DL.Xb,DL.Tc,DL.Td,DL.Tf,DL.Xd,DL.Xe,DL.Tg,DL.Th,DL.Tj,DL.Tn,DL.Xf,DL.Iz,DL.Xg,DL.Tp,DL.Ny,DL.Tq,DL.Nz,DL.NK,DL.zR,DL.Xh,DL.NP,DL.vP,DL.aac,DL.uf,DL.ug,DL.Xi,DL.aad,DL.aae,DL.uh,DL.Xj,DL.ul,DL.Xk,DL.aaf,DL.qm,DL.aag,DL.uo,DL.Tt,DL.Xl,DL.Tu,DL.rH,DL.aah,DL.aai,DL.Tv,DL.ab8,DL.ab9,DL.aaj,DL.aak,DL.aal,DL.ab_,DL.aca,DL.aam,DL.aan,DL.aao,DL.aap,DL.acb,DL.Tw,DL.acd,DL.aaq,DL.Xm,DL.aar,DL.Xn,DL.Xo,DL.ace,DL.Ds,DL.zm,DL.oZ,DL.IK,DL.ni,DL.nq,DL.Dt,DL.IV,DL.IW,DL.nu,DL.Du,DL.nD,DL.Dy,DL.I_,DL.lF,DL.Ja,DL.nJ,DL.Az,DL.Dz,DL.A_,DL.mD,DL.Jb,DL.Ba,DL.xN,DL.tG,DL.DN,DL.rJ,DL.rK,DL.Bb,DL.DQ,DL.DR,DL.rM,DL.Bc,DL.rN,DL.Be,DL.DW,DL.pO,DL.DY,DL.rO,DL.zp,DL.Bf,DL.zq,DL.qJ,DL.D_,DL.Ea,DL.zr,DL.Jc,DL.Jd,DL.Eb,DL.Ec,DL.Ed,DL.Je,DL.Jf,DL.Ef,DL.Eh,DL.Ei,DL.Ek,DL.Jg,DL.zu,DL.Jh,DL.El,DL.Bg,DL.Em,DL.Bh,DL.Bj,DL.Ji,DL.Eo,DL.zA,DL.Jj,DL.Jk,DL.Ep,DL.Es,DL.Et,DL.Jl,DL.Jm,DL.Eu,DL.Ew,DL.Ey,DL.Ez,DL.Jo,DL.zB,DL.Jp,DL.EY,DL.Bl,DL.E_,DL.Bm,DL.Bo,DL.Jq,DL.Jr,DL.Bp,DL.NQ,DL.NT,DL.Jt,DL.Ju,DL.Jv,DL.NZ,DL.N5,DL.Jw,DL.Jx,DL.Jy,DL.Jz,DL.N6,DL.Bq,DL.N7,DL.JB,DL.Fb,DL.JC,DL.Fd,DL.Fe,DL.N8,DL.Tz,DL.JD,DL.Xp,DL.Xq,DL.TF,DL.TJ,DL.TQ,DL.Xr,DL.Xu,DL.TV,DL.TX,DL.TY,DL.T5,DL.Xv,DL.JF,DL.Xw,DL.T6,DL.N_,DL.T7,DL.Oa,DL.Oc,DL.Xx,DL.Od,DL.Ff,DL.T8,DL.T9,DL.Oe,DL.Og,DL.Oh,DL.T_,DL.Ua,DL.Oi,DL.Oj,DL.Ol,DL.Om,DL.Ub,DL.Fg,DL.Uc,DL.Oo,DL.JG,DL.Oq,DL.JH,DL.JK,DL.Ud,DL.abg,List.lookup,if_false,if_true,ite_true,ite_false,true_and,beq_self_eq_true,DL.aD1,DL.aD2,DL.aD3,DL.aD4,DL.aD5,DL.aD6,DL.aD7,DL.aD8,DL.aD9,DL.aD_,Option.map_some,DL.av7,DL.apv,DL.ak0,DL.aBq,DL.apw,DL.apx,DL.aBr,DL.apy,DL.apz,DL.apA,DL.aEc,DL.aBu,DL.apB, ↓DL.apr, ↓DL.aps, ↓DL.av4, ↓DL.aBn, ↓DL.av5, ↓DL.apt, ↓DL.av2, ↓DL.av3, ↓DL.apo, ↓DL.apq,DL.av8,DL.apC,DL.av9,DL.ak3,DL.ak4,DL.ak5,DL.aBz,DL.av_,DL.awa,DL.awb,DL.awc,DL.awd,DL.apE,DL.aEo,DL.awo,DL.aBL,DL.awp,DL.awq,DL.awr,DL.aws,DL.apH,DL.apJ,DL.apL,DL.awt,DL.apM,DL.apO,DL.awu,DL.apP,DL.apQ,DL.apR,DL.apS,DL.alg,DL.alh,DL.apT,DL.ali,DL.aBM,DL.apU,DL.apV,DL.apW,DL.alq,DL.aEq,DL.aBQ,DL.apY,DL.apZ,DL.ap0,DL.ap1,DL.ap2,DL.ap3,DL.ap4,DL.awz,DL.awE,DL.aqf,DL.aqh,DL.aqi,DL.aqj,DL.aqn,DL.awJ,DL.awK,DL.aqk,DL.aql,DL.aqm,DL.aqo,DL.awS,DL.aqq,DL.aB0,DL.awT,DL.awU,DL.awV,DL.awW,DL.awX,DL.aqr,DL.alK,DL.ahO,DL.awY,DL.aqa,DL.alA,DL.agE,DL.acq,DL.Ys,DL.aqc,DL.aBT,DL.aqd,DL.alC,DL.alD,DL.awB,DL.aqe,DL.awC,DL.alM,DL.ahP,DL.ahQ,DL.aEy,DL.aB4,DL.aw0,DL.aqt,DL.aqu,DL.agE,DL.acq,DL.Ys,DL.alN,DL.ahR,DL.aB5,DL.aw3,DL.aw4,DL.alT,DL.aqz,DL.alU,DL.alV,DL.aqA,DL.alW,DL.aqy,DL.aw6, ↓DL.aCD, ↓DL.aq_, ↓DL.axP, ↓DL.aqL, ↓DL.amk, ↓DL.aqK, ↓DL.aqI, ↓DL.aqJ, ↓DL.aEK, ↓DL.aCv, ↓DL.aCw, ↓DL.axp, ↓DL.axq, ↓DL.aCx, ↓DL.axr, ↓DL.aqM, ↓DL.aqN, ↓DL.axs, ↓DL.aCy, ↓DL.axt, ↓DL.aCz, ↓DL.axv, ↓DL.axw,DL.aqO,DL.aqP,DL.amm, ↓DL.aCA, ↓DL.axx, ↓DL.aCB, ↓DL.axy, ↓DL.axz, ↓DL.aqQ, ↓DL.aqR, ↓DL.amn,DL.axA,DL.axB,DL.aqS,DL.axC,DL.aqT,DL.axD,DL.aqU,DL.amo,DL.ahW, ↓DL.aqV, ↓DL.amq, ↓DL.amr, ↓DL.ams, ↓DL.aqW, ↓DL.aqX, ↓DL.axE, ↓DL.aqY, ↓DL.aqZ, ↓DL.aq0, ↓DL.axF, ↓DL.aq1, ↓DL.aq2, ↓DL.aq3, ↓DL.aq4, ↓DL.aq5,DL.axH,DL.axI,DL.aq6,DL.axJ,DL.axK,DL.aq7,DL.axL,DL.aq8, ↓DL.axM, ↓DL.axN, ↓DL.axO, ↓DL.aq9, ↓DL.arb, ↓DL.aCE, ↓DL.aCF, ↓DL.arc, ↓DL.amu, ↓DL.amv,DL.ard,DL.arf,DL.arh,DL.ari,DL.amw, ↓DL.arj, ↓DL.amx,DL.ark,DL.amy,DL.ahX, ↓DL.axQ, ↓DL.arl, ↓DL.axR, ↓DL.arn, ↓DL.aro, ↓DL.amz, ↓DL.axS, ↓DL.arp, ↓DL.axT, ↓DL.arq, ↓DL.ars, ↓DL.aCG, ↓DL.axU, ↓DL.aCH, ↓DL.axV, ↓DL.aCI, ↓DL.axW, ↓DL.art, ↓DL.axX, ↓DL.axY, ↓DL.aru, ↓DL.axZ, ↓DL.arv, ↓DL.arw, ↓DL.arx, ↓DL.arz,DL.aye,DL.ayf, ↓DL.aEL, ↓DL.ayg, ↓DL.ayh, ↓DL.ayi, ↓DL.ayj, ↓DL.ayk, ↓DL.arE, ↓DL.arF, ↓DL.ayl, ↓DL.aym, ↓DL.arG, ↓DL.arH, ↓DL.arI, ↓DL.ayn, ↓DL.ayo, ↓DL.ayp, ↓DL.aCL, ↓DL.ayq, ↓DL.amL, ↓DL.arJ, ↓DL.arK, ↓DL.amM, ↓DL.arL,DL.arM,DL.ayr, ↓DL.ays,DL.ara, ↓DL.arU, ↓DL.amV, ↓DL.amW, ↓DL.arV, ↓DL.amX, ↓DL.amY, ↓DL.ah6, ↓DL.aCQ, ↓DL.ayD, ↓DL.ayE, ↓DL.ayF, ↓DL.arW, ↓DL.arX, ↓DL.ayG, ↓DL.arY, ↓DL.arZ, ↓DL.ayH, ↓DL.ar0,DL.amZ,DL.ar3,DL.ar4,DL.ar5,DL.ar6,DL.ar7,DL.ar8, ↓DL.aCR, ↓DL.ayI, ↓DL.ar9, ↓DL.ar_, ↓DL.ase, ↓DL.am0, ↓DL.am1, ↓DL.asf, ↓DL.ash, ↓DL.asi, ↓DL.aCS, ↓DL.ayJ, ↓DL.aCT, ↓DL.ayK, ↓DL.ayL, ↓DL.asj, ↓DL.am2, ↓DL.asl, ↓DL.am3, ↓DL.am4, ↓DL.asm, ↓DL.am5, ↓DL.am6, ↓DL.am7, ↓DL.ayM, ↓DL.aCV, ↓DL.ayN, ↓DL.asn, ↓DL.am8, ↓DL.aso, ↓DL.am9,DL.kdD,DL.asp,DL.ayR,DL.ane,DL.asr,DL.ass,DL.asv,DL.asu, ↓DL.anh, ↓DL.ah7, ↓DL.ayS, ↓DL.asx, ↓DL.aC2, ↓DL.ayT, ↓DL.ayU, ↓DL.aC3, ↓DL.ayV, ↓DL.aC4, ↓DL.aC5, ↓DL.aC6, ↓DL.ayW, ↓DL.aC7, ↓DL.aC8, ↓DL.aC9, ↓DL.ank, ↓DL.asy,DL.avh,DL.aDh, ↓DL.aDi, ↓DL.ay5, ↓DL.aDj, ↓DL.aDk, ↓DL.aDl, ↓DL.aDm, ↓DL.ay6, ↓DL.aDn, ↓DL.aDo, ↓DL.ay7, ↓DL.ay8, ↓DL.asN, ↓DL.ay9, ↓DL.ay_, ↓DL.asO, ↓DL.aza, ↓DL.azb, ↓DL.azc, ↓DL.aDp, ↓DL.azd, ↓DL.aDq, ↓DL.asQ, ↓DL.aDr, ↓DL.aDs, ↓DL.aDt, ↓DL.aze, ↓DL.aDu, ↓DL.aDv, ↓DL.azf, ↓DL.aDw,DL.asR,DL.azg, ↓DL.asV, ↓DL.as3, ↓DL.azw, ↓DL.azx, ↓DL.azy, ↓DL.azz, ↓DL.as4, ↓DL.azA, ↓DL.aDz, ↓DL.aDA, ↓DL.azB, ↓DL.azC, ↓DL.anJ, ↓DL.anK,DL.as7,DL.azG, ↓DL.ajy, ↓DL.ajz, ↓DL.afA, ↓DL.abv, ↓DL.at7, ↓DL.at8, ↓DL.afB, ↓DL.q_c, ↓DL.aA6, ↓DL.ajA, ↓DL.ajB, ↓DL.aA7, ↓DL.at9, ↓DL.abw, ↓DL.abx, ↓DL.aby, ↓DL.aua, ↓DL.aub, ↓DL.auc, ↓DL.ajC, ↓DL.aud, ↓DL.aue, ↓DL.afC, ↓DL.afD, ↓DL.afE, ↓DL.abz, ↓DL.abA, ↓DL.afF, ↓DL.afG, ↓DL.afH, ↓DL.abB, ↓DL.abC, ↓DL.aA8, ↓DL.aA9, ↓DL.aA_, ↓DL.aBa, ↓DL.auf, ↓DL.ajD, ↓DL.CP, ↓DL.CQ, ↓DL.CT, ↓DL.CV, ↓DL.auh, ↓DL.ajE, ↓DL.aui, ↓DL.ajF, ↓DL.auj, ↓DL.aBb, ↓DL.ajG, ↓DL.ajH, ↓DL.auk, ↓DL.aul, ↓DL.ajI, ↓DL.ajJ, ↓DL.aum, ↓DL.aBc, ↓DL.abD, ↓DL.afI, ↓DL.ajK, ↓DL.afJ, ↓DL.ajL, ↓DL.aun, ↓DL.abE, ↓DL.afK, ↓DL.ajM, ↓DL.ajN, ↓DL.aBd, ↓DL.auo, ↓DL.ajO, ↓DL.aup, ↓DL.auq, ↓DL.ajP, ↓DL.abF, ↓DL.abG, ↓DL.aur, ↓DL.ajQ, ↓DL.aus, ↓DL.afL, ↓DL.ajR, ↓DL.ajS, ↓DL.ajT, ↓DL.ajU, ↓DL.abH, ↓DL.afM, ↓DL.afN, ↓DL.ajV, ↓DL.aBe, ↓DL.ajW, ↓DL.ajX, ↓DL.ajY, ↓DL.afO, ↓DL.afP, ↓DL.ajZ, ↓DL.aj0, ↓DL.aj1, ↓DL.aBf, ↓DL.afQ, ↓DL.afR, ↓DL.aut, ↓DL.aj2, ↓DL.auu, ↓DL.aj3, ↓DL.afS, ↓DL.aj4, ↓DL.auv, ↓DL.aj5, ↓DL.auw, ↓DL.auy, ↓DL.auz, ↓DL.aj6, ↓DL.auA, ↓DL.afT, ↓DL.aBg, ↓DL.aj7, ↓DL.auB, ↓DL.afU, ↓DL.afV, ↓DL.afW, ↓DL.aj8, ↓DL.afX, ↓DL.afY, ↓DL.afZ, ↓DL.af0, ↓DL.aj9, ↓DL.auC, ↓DL.aj_, ↓DL.auD, ↓DL.auE, ↓DL.aka, ↓DL.akb, ↓DL.auF, ↓DL.akc, ↓DL.akd, ↓DL.ake, ↓DL.auG, ↓DL.aBh, ↓DL.af1, ↓DL.aki, ↓DL.af2, ↓DL.af3, ↓DL.akj, ↓DL.af4, ↓DL.af5, ↓DL.af6, ↓DL.af7, ↓DL.auH, ↓DL.akk, ↓DL.af8, ↓DL.akl, ↓DL.af9, ↓DL.akm, ↓DL.auI, ↓DL.akn, ↓DL.auJ, ↓DL.aBi, ↓DL.auK, ↓DL.ako, ↓DL.akp, ↓DL.af_, ↓DL.aga, ↓DL.akq, ↓DL.abK, ↓DL.abL, ↓DL.agb, ↓DL.agc, ↓DL.agd, ↓DL.akr, ↓DL.auL, ↓DL.aks, ↓DL.auM, ↓DL.akt, ↓DL.auN, ↓DL.aku, ↓DL.akv, ↓DL.auO, ↓DL.abM, ↓DL.abN, ↓DL.auP, ↓DL.akx, ↓DL.auQ, ↓DL.abO, ↓DL.abP, ↓DL.abQ, ↓DL.abR, ↓DL.aky, ↓DL.age, ↓DL.auR, ↓DL.agf, ↓DL.akz, ↓DL.abS, ↓DL.abT, ↓DL.auS, ↓DL.auT, ↓DL.agg, ↓DL.akA, ↓DL.agh, ↓DL.agi, ↓DL.agj, ↓DL.akB, ↓DL.akC, ↓DL.akD, ↓DL.akE, ↓DL.auU, ↓DL.auV, ↓DL.auW, ↓DL.abU, ↓DL.auX, ↓DL.akF, ↓DL.agk, ↓DL.akG, ↓DL.akH, ↓DL.akI, ↓DL.abV, ↓DL.abW, ↓DL.akJ, ↓DL.agl, ↓DL.akK, ↓DL.auY, ↓DL.agm, ↓DL.agn, ↓DL.ago, ↓DL.akL, ↓DL.Py, ↓DL.yS, ↓DL.yU, ↓DL.vO, ↓DL.CW, ↓DL.yV,DL.Py,DL.yS,DL.yU,DL.vO,DL.CW,DL.yV,DL.akM,DL.agp,DL.agq,DL.agr,DL.ags,DL.agt,DL.agu,DL.abX,DL.abY,DL.abZ,DL.abI,DL.abJ,DL.akf,DL.akg,DL.akh,DL.yR,DL.uG,DL.abr,DL.kb1,DL.kb2,DL.kb3,DL.kb4,DL.kb5,DL.kb6,DL.kb7,DL.kb8,DL.kb9,DL.aAB,DL.aAC,DL.aAD,Bool.not_true,Bool.not_false,decide_true,decide_false,true_and])
local macro_rules| `(tactic|walk_at "tq")=> `(tactic|try (walk_at "dq"))
local macro_rules| `(tactic|walk_at "dg0")=> `(tactic|simp only [DL.xR,DL.amA,DL.amB,DL.ax0,DL.amC,DL.Yy,DL.Yz,DL.ahY,DL.YB,Nat.reduceAdd,List.length_cons,List.length_nil,List.replicate_succ,List.replicate_zero,List.cons_append,List.nil_append,Nat.reduceSub,Nat.zero_add,Nat.sub_self])
local macro_rules| `(tactic|walk_at "sz")=> `(tactic|first|decide|omega|(rw [DL.szl];simp only [List.length_append,List.length_cons,List.length_nil,List.length_map,DL.dM];first|done|omega))
namespace K67
open PySem L2 DL
theorem zK(A:Ad): ∀ds Q,pW A ds Q→tV A (.no::(ds.map Sl.sh++List.replicate (["self","name","skills","most","carried","past"].length - (ds.length+1)) Sl.no)) [] Q:=by
 intro ds Q h
 unfold pW at h
 split at h<;>first|exact False.elim h|skip
 unfold tV
 walk_at "dl0"
 walk_at "dq"
 exact ⟨by simp,by simp,by simp,by simp,by simp,h⟩
theorem B_(A:Ad): ∀ds Q,pF A ds Q→u5 A (.no::(ds.map Sl.sh++List.replicate (["self","days","kinds","needs","persons","leave","wishes","rules","pairs"].length - (ds.length+1)) Sl.no)) [] Q:=by
 intro ds Q h
 unfold pF at h
 split at h<;>first|exact False.elim h|skip
 unfold u5
 walk_at "dl0"
 walk_at "dq"
 exact ⟨by simp,by simp,by simp,by simp,by simp,by simp,by simp,by simp,h⟩
theorem X5(A:Ad): ∀ds Q,cI A ds Q→Ls A { nx:=fun _=>Q .non,rt:=Q } (bM ["_law_script","_law_k"] ds):=by
 intro ds Q h
 unfold cI at h
 split at h<;>first|exact False.elim h|skip
 rename_i xs k
 obtain ⟨ns,rfl,h0,h⟩:=h
 unfold Ls
 walk_at "dl0"
 walk_at "dq"
 refine cV (fun g=> ?_) (fun g=> ?_)
 ·walk_at "dl"
  have g':k.toNat<ns.length:=by rw [List.length_map] at g;omega
  rw [tD _ h0,List.getElem?_map]
  simp only [List.getD,g',List.getElem?_eq_getElem,Option.map_some,Option.getD_some] at h ⊢
  walk_at "dl"
  exact h
 ·walk_at "dl"
  have g':ns.length≤k.toNat:=by rw [List.length_map] at g;omega
  simp only [List.getD,List.getElem?_eq_none g',Option.getD_none] at h
  exact h
theorem Ca(A:Ad): ∀ds Q,iy A ds Q→u6 A { nx:=fun _=>Q .non,rt:=Q } (bM ["self","name","p"] ds):=by
 intro ds Q h
 unfold iy at h
 split at h<;>first|exact False.elim h|skip
 obtain ⟨d,ks,ns,ps,lv,ws,rs,pr,p,rfl,⟨hl,hu⟩,hp,rfl,h⟩:=h
 unfold u6 bA
 walk_at "dl0"
 walk_at "dq"
 rw [List.length_map]
 refine ⟨⟨by omega,by omega⟩, ?_⟩
 refine bH (fun i ρ=>i≤p∧ ∃b,ρ=[Sl.sh (bA A d ks ns ps lv ws rs pr),Sl.sh (.str ((ps.map (·.name)).getD p [])),b]) ⟨Nat.zero_le _,_,rfl⟩ ?_ aG ?_
 ·rintro i x ρ hx ⟨hi,b,rfl⟩
  obtain ⟨rfl,hi2⟩:=jA hx
  have hi2:i<ps.length:=by omega
  unfold bA
  walk_at "dq"
  intro nx hnx
  rw [bV,dO]
  simp only [List.getElem?_map,List.getElem?_eq_getElem hi2,Option.map_some]
  unfold eU
  walk_at "dq"
  have e1:(ps.map (·.name)).getD i []=ps[i].name:=by simp [List.getD,hi2]
  refine cV (fun q=> ?_) (fun q=> ?_)
  ·walk_at "dq"
   have:=hu i p hi2 hp (by rw [e1];exact q)
   subst this
   exact h
  ·walk_at "dq"
   refine hnx _ ⟨?_,_,rfl⟩
   by_cases z:i=p
   ·subst z;exact absurd e1.symm q
   ·omega
 ·rintro ρ ⟨hi,b,rfl⟩
  rw [dM] at hi
  omega
theorem Cd(A:Ad): ∀ds Q,fQ A ds Q→uV A { nx:=fun _=>Q .non,rt:=Q } (bM ["self","p","many"] ds):=by
 intro ds Q h
 unfold fQ at h
 split at h<;>first|exact False.elim h|skip
 unfold uV
 walk_at "dl0"
 walk_at "dq"
 exact h
theorem GF(A:Ad): ∀ds Q,gJ A ds Q→wL A { nx:=fun _=>Q .non,rt:=Q } (bM ["self","p","day","mark"] ds):=by
 intro ds Q h
 unfold gJ at h
 split at h<;>first|exact False.elim h|skip
 unfold wL
 walk_at "dl0"
 walk_at "dq"
 exact h
theorem az2{cs:List Int}(h: ∀c∈cs,big c){p:Int}(h0:0≤p)(h1:p<cs.length):ixD (cs.map D.int) p=some (.int (cs.getD p.toNat 0))∧big (cs.getD p.toNat 0):=by
 have hp:p.toNat<cs.length:=by omega
 rw [rG h0 (by rw [List.length_map];exact h1),List.getElem_map]
 simp only [List.getD,List.getElem?_eq_getElem hp,Option.getD_some]
 exact ⟨trivial,h _ (List.getElem_mem hp)⟩
theorem aaY{cs:List Int}{p:Int}(h0:0≤p)(h1:p<cs.length):ixD (cs.map D.int) p=some (.int (cs.getD p.toNat 0)):=by
 have hp:p.toNat<cs.length:=by omega
 rw [rG h0 (by rw [List.length_map];exact h1),List.getElem_map]
 simp only [List.getD,List.getElem?_eq_getElem hp,Option.getD_some]
theorem ahf{c n:Int}(h:big c)(h0:0≤n)(h1:n≤1000):(c+n).natAbs<Uh:=by
 obtain ⟨h2,h3⟩:=h
 exact agx (by omega) (by omega)
theorem v8(A:Ad): ∀ds Q,eE A ds Q→pZ A { nx:=fun _=>Q .non,rt:=Q } (bM ["self","p","many"] ds):=by
 intro ds Q h
 unfold eE at h
 split at h<;>first|exact False.elim h|skip
 rename_i x p n
 obtain ⟨cs,wt,ws,rfl,⟨⟨p0,p1⟩,hb,⟨w0,w1⟩,n0,n1⟩,h⟩:=h
 obtain ⟨e1,b1⟩:=az2 hb p0 p1
 unfold pZ Lk
 walk_at "dl0"
 walk_at "dq"
 rw [e1]
 walk_at "dq"
 refine ⟨⟨by decide,by decide,ahf b1 n0 n1⟩,⟨av1 (agx w0 (by omega)),apk (ahf b1 n0 n1)⟩, ?_⟩
 exact h
theorem aio{ws:List Xz}{i:Nat}{w:Xz}{p d:Int}{c:Nat}(h:ws[i]? =some w):acV (ws.take (i+1)) p d c=if aeQ p d c w=true then acV (ws.take i) p d c+1 else acV (ws.take i) p d c:=by
 rw [dD h]
 unfold acV
 rw [List.filter_append]
 by_cases g:aeQ p d c w=true
 ·rw [if_pos g,List.filter_cons_of_pos g];simp
 ·rw [if_neg g,List.filter_cons_of_neg g];simp
theorem w6(A:Ad): ∀ds Q,fB A ds Q→qP A { nx:=fun _=>Q .non,rt:=Q } (bM ["self","p","day","mark","unmet","one","at","marks"] ds):=by
 intro ds Q h
 unfold fB at h
 split at h<;>first|exact False.elim h|skip
 rename_i x p d c
 obtain ⟨cs,wt,ws,rfl,h⟩:=h
 unfold qP Lk
 walk_at "dl0"
 walk_at "dq"
 refine bH (fun i ρ=> ∃b5 b6 b7,ρ=[Sl.sh (Lk A cs wt ws),Sl.sh (.int p),Sl.sh (.int d),Sl.sh (.str [c]),Sl.sh (.int (acV (ws.take i) p d c)),b5,b6,b7]) ⟨_,_,_,rfl⟩ ?_ (e_ (aM aG (aM aG (aM aG du)))) ?_
 ·rintro i x ρ hx ⟨b5,b6,b7,rfl⟩
  obtain ⟨w,hw,rfl⟩:=gA hx
  rw [aio hw]
  unfold acU
  walk_at "dq"
  refine ⟨rfl, ?_⟩
  intro nx hnx
  refine cV (fun q1=> ?_) (fun q1=> ?_)
  ·walk_at "dq"
   refine cV (fun q2=> ?_) (fun q2=> ?_)
   ·walk_at "dq"
    refine jy (fun q3=> ?_) (fun q3=> ?_)
    ·walk_at "dq"
     rw [if_pos (by simp [aeQ,q1,q2];simpa using q3)] at hnx
     exact hnx _ ⟨_,_,_,rfl⟩
    ·walk_at "dq"
     rw [if_neg (by simp [aeQ,q1,q2];simpa using q3)] at hnx
     exact hnx _ ⟨_,_,_,rfl⟩
   ·walk_at "dq"
    rw [if_neg (by simp [aeQ,q2])] at hnx
    exact hnx _ ⟨_,_,_,rfl⟩
  ·walk_at "dq"
   rw [if_neg (by simp [aeQ,q1])] at hnx
   exact hnx _ ⟨_,_,_,rfl⟩
 ·rintro ρ ⟨b5,b6,b7,rfl⟩
  rw [List.length_map,List.take_length]
  walk_at "dq"
  exact h
theorem uC(A:Ad): ∀ds Q,g_ A ds Q→nY A (.no::(ds.map Sl.sh++List.replicate (["self","house","rota"].length - (ds.length+1)) Sl.no)) [] Q:=by
 intro ds Q h
 unfold g_ at h
 split at h<;>first|exact False.elim h|skip
 unfold nY
 walk_at "dl0"
 walk_at "dq"
 exact ⟨by simp,h⟩
theorem vh(A:Ad): ∀ds Q,dR A ds Q→oO A { nx:=fun _=>Q .non,rt:=Q } (bM ["self","p","day","mark"] ds):=by
 intro ds Q h
 unfold dR at h
 split at h<;>first|exact False.elim h|skip
 rename_i x p d c
 obtain ⟨rows,rfl,⟨⟨p0,d0⟩,p1,hr⟩,h⟩:=h
 have hp:p.toNat<rows.length:=by omega
 have hd:=hr _ (List.getElem_mem hp)
 have hd2:d.toNat<rows[p.toNat].length:=by omega
 unfold oO Qg
 walk_at "dl0"
 walk_at "dq"
 rw [rG p0 (by rw [List.length_map];exact p1),List.getElem_map]
 walk_at "dq"
 rw [rG d0 hd]
 walk_at "dq"
 unfold wH at h
 simp only [List.getD,List.getElem?_eq_getElem hp,List.getElem?_eq_getElem hd2,Option.getD_some] at h
 refine cV (fun q=> ?_) (fun q=> ?_)
 ·walk_at "dq"
  rw [if_pos (by simpa using q)] at h
  exact h
 ·walk_at "dq"
  rw [if_neg (by simpa using q)] at h
  exact h
theorem vm(A:Ad): ∀ds Q,dU A ds Q→oU A { nx:=fun _=>Q .non,rt:=Q } (bM ["self","p","many"] ds):=by
 intro ds Q h
 unfold dU at h
 split at h<;>first|exact False.elim h|skip
 rename_i x p n
 obtain ⟨cs,l,rfl,⟨p0,p1⟩,h⟩:=h
 unfold oU aaS
 walk_at "dl0"
 walk_at "dq"
 rw [aaY p0 p1]
 walk_at "dq"
 exact h
def az3:D→D
 | .obj _ gs=>(gs.lookup ("carried":Str)).getD .non
 |_=> .non
theorem atb(A:Ad)(ps:List i_):(ps.map (eU A)).map az3=(ps.map (·.carried)).map D.int:=by
 rw [List.map_map,List.map_map]
 apply List.map_congr_left
 intro p _
 show ((List.lookup ("carried":Str) [("name",D.str p.name),("skills", .str p.skills),("most", .int p.most),("carried", .int p.carried),("past", .str p.past)]).getD .non)=D.int p.carried
 walk_at "dq"
 rfl
theorem vo(A:Ad): ∀ds Q,jc A ds Q→oR A (.no::(ds.map Sl.sh++List.replicate (["self","house","level","person"].length - (ds.length+1)) Sl.no)) [] Q:=by
 intro ds Q h
 unfold jc at h
 split at h<;>first|exact False.elim h|skip
 rename_i x l
 obtain ⟨d,ks,ns,ps,lv,ws,rs,pr,rfl,hl,h⟩:=h
 unfold oR bA
 walk_at "dl0"
 walk_at "dq"
 refine ⟨by rw [szl,List.length_map];omega, ?_⟩
 refine agv az3 ?_ aG bU ?_
 ·intro x hx Q' hQ
  obtain ⟨p,_,rfl⟩:=aas hx
  simp only [eZ,List.set]
  unfold az3 eU at hQ
  unfold eU
  walk_at "dq"
  simp only [List.lookup,wF,tE,wC,beq_self_eq_true,Option.getD_some] at hQ
  exact hQ
 ·rw [atb]
  walk_at "dq"
  exact ⟨by simp,by simp,h⟩
theorem v9(A:Ad): ∀ds Q,jK A ds Q→qb A (.no::(ds.map Sl.sh++List.replicate (["self","house","person","name","day","marks"].length - (ds.length+1)) Sl.no)) [] Q:=by
 intro ds Q h
 unfold jK at h
 split at h<;>first|exact False.elim h|skip
 obtain ⟨d,ks,ns,ps,lv,ws,rs,pr,rfl,⟨okp,hwl,hwp⟩,h⟩:=h
 have hpl:=okp.1
 unfold qb bA
 walk_at "dl0"
 walk_at "dq"
 refine ⟨by rw [szl,List.length_map];omega, ?_⟩
 refine fJ (eU A) (fun p=> .int p.carried) ?_ aG bU ?_
 ·intro p _ Q' hQ
  simp only [eZ,List.set]
  unfold eU
  walk_at "dq"
  exact hQ
 walk_at "dq"
 refine ⟨by simp,by simp,by rw [szl,List.length_map];omega, ?_⟩
 refine fJ (acT ps) acU ?_ (e_ (aM aG (aM aG (aM aG du)))) bU ?_
 ·intro w hw Q' hQ
  simp only [eZ,List.set]
  unfold acT
  walk_at "dq"
  refine ⟨rfl, ?_⟩
  refine aV rfl ⟨rfl,rfl⟩ ?_
  walk_at "dq"
  refine ⟨d,ks,ns,ps,lv,ws.map (acT ps),rs,pr,w.p,rfl,okp,hwp w hw,rfl, ?_⟩
  walk_at "tq"
  exact hQ
 walk_at "dq"
 refine ⟨by simp, ?_⟩
 rw [show iK (ps.map (·.carried))= .lst (ps.map fun p=>D.int p.carried) by unfold iK;rw [List.map_map];rfl] at h
 rw [List.length_map]
 exact h
theorem e1:(("many":Str)="marks")=False:=eq_false (by decide+kernel)
theorem e2:(("many":Str)="days")=False:=eq_false (by decide+kernel)
theorem e3:(("marks":Str)="days")=False:=eq_false (by decide+kernel)
theorem e4:(("left":Str)="right")=False:=eq_false (by decide+kernel)
theorem an4(A:Ad): ∀ds Q,yf A ds Q→an0 A { nx:=fun _=>Q .non,rt:=Q } (bM ["sign","mark"] ds):=by
 intro ds Q h
 unfold yf at h
 split at h<;>first|exact False.elim h|skip
 rename_i s m
 unfold an0
 walk_at "dl0"
 walk_at "dl"
 unfold Ln at h
 refine cV (fun h1=> ?_) (fun h1=> ?_)
 ·walk_at "dl"
  rw [if_pos h1] at h;exact h
 ·rw [if_neg h1] at h
  walk_at "dl"
  refine cV (fun h2=> ?_) (fun h2=> ?_)
  ·rw [if_pos h2] at h
   walk_at "dl"
   simpa using h
  ·rw [if_neg h2] at h
   walk_at "dl"
   exact h
theorem ade(A:Ad): ∀ds Q,iU A ds Q→YK A { nx:=fun _=>Q .non,rt:=Q } (bM ["marks","many"] ds):=by
 intro ds Q h
 unfold iU at h
 split at h<;>first|exact False.elim h|skip
 rename_i z n
 unfold YK
 walk_at "dl0"
 walk_at "dl"
 rw [QK _ (by split<;>omega)]
 unfold fu at h
 have:(if (z.length:Int) - n>0 then (z.length:Int) - n else 0).toNat=((z.length:Int) - n).toNat:=by split<;>omega
 rw [this];exact h
theorem Ce(A:Ad): ∀ds Q,tM A ds Q→uY A (.no::(ds.map Sl.sh++List.replicate (["self","word"].length - (ds.length+1)) Sl.no)) [] Q:=by
 intro ds Q h
 unfold tM at h
 split at h<;>first|exact False.elim h|skip
 unfold uY
 walk_at "dl0"
 walk_at "dl"
 exact ⟨by simp,h⟩
theorem X6(A:Ad): ∀ds Q,kY A ds Q→Lz A { nx:=fun _=>Q .non,rt:=Q } (bM ["self","marks","sign","mark"] ds):=by
 intro ds Q h
 unfold kY at h
 split at h<;>first|exact False.elim h|skip
 rename_i x z
 obtain ⟨w,rfl,h⟩:=h
 unfold Lz
 walk_at "dl0"
 walk_at "dq"
 unfold BR at h
 refine cV (fun g=> ?_) (fun g=> ?_)
 ·walk_at "dq"
  have: ¬w.length≤z.length:=by omega
  simp only [this,decide_false,Bool.false_and] at h
  exact h
 ·walk_at "dq"
  have g':w.length≤z.length:=by omega
  simp only [g',decide_true,Bool.true_and] at h
  have e:fu z (w.length:Int)=z.drop (z.length - w.length):=by
   unfold fu
   congr 1;omega
  rw [e]
  generalize z.drop (z.length - w.length)=y at h
  have ez:(List.map (fun p=>D.tup [p.1,p.2]) ((eO w).zip (eO y)))=(w.zip y).map fun p=>D.tup [.str [p.1], .str [p.2]]:=by
   unfold eO
   rw [List.zip_map,List.map_map]
   rfl
  rw [ez]
  let t:D→Bool:=fun x=>match x with| .tup [.str a, .str b]=>Ln a b|_=>false
  have et:((w.zip y).map fun p=>D.tup [.str [p.1], .str [p.2]]).all t=(w.zip y).all fun p=>Ln [p.1] [p.2]:=by
   rw [List.all_map];rfl
  refine ab1 t (fun ρ=> ∃a b c d,ρ=[a,b,c,d]) (.bl false) (e_ (aM aG (aM aG du))) ⟨_,_,_,_,rfl⟩ ?_ ?_ ?_
  ·rintro x hx ρ ⟨a,b,c,d,rfl⟩
   obtain ⟨p,hp,rfl⟩:=List.mem_map.mp hx
   walk_at "dl"
   refine ⟨rfl, ?_⟩
   intro nx h1 h2
   walk_at "dq"
   refine jy (fun q=> ?_) (fun q=> ?_)
   ·walk_at "dl"
    exact h2 (by simpa using q)
   ·walk_at "dl"
    exact h1 (by simpa using q) _ ⟨_,_,_,_,rfl⟩
  ·intro a ρ _
   rw [et] at a
   rw [a] at h
   exact h
  ·intro a
   rw [et] at a
   rw [a] at h
   exact h
theorem O9(A:Ad): ∀ds Q,jm A ds Q→Ac A { nx:=fun _=>Q .non,rt:=Q } (bM ["self"] ds):=by
 intro ds Q h
 unfold jm at h
 split at h<;>first|exact False.elim h|skip
 obtain ⟨w,rfl,h⟩:=h
 unfold Ac
 walk_at "dl0"
 walk_at "tq"
 exact h
end K67
set_option maxHeartbeats 0
namespace K67
open PySem L2 DL
theorem GJ{k j:Bool}{dt:DT}{ρ:Rh}{d1 d2:DS}{E:DEn}(ht:k=true→ ∀PB:Bool→Prop,PB j→dt ρ PB)(h1:(k&&j)=true→d1 E ρ)(h2:(k&&j)=false→d2 E ρ):ifB k (teT dt ρ (ahH d1 d2 E ρ)) (bT (ahH d1 d2 E ρ) false):=by
 cases k with
 |false=>exact h2 rfl
 |true=>
  refine ht rfl _ ?_
  cases j with
  |true=>exact h1 rfl
  |false=>exact h2 rfl
theorem an5{k j:Bool}{dt:DT}{ρ:Rh}{d1 d2:DS}{E:DEn}(ht:k=false→ ∀PB:Bool→Prop,PB j→dt ρ PB)(h1:(k || j)=true→d1 E ρ)(h2:(k || j)=false→d2 E ρ):ifB k (bT (ahH d1 d2 E ρ) true) (teT dt ρ (ahH d1 d2 E ρ)):=by
 cases k with
 |true=>exact h1 rfl
 |false=>
  refine ht rfl _ ?_
  cases j with
  |true=>exact h1 rfl
  |false=>exact h2 rfl
theorem v_{α:Type}{l:List α}{i:Nat}{x:α}(h:l[i]? =some x)(Q:α→Bool):(l.take (i+1)).filter Q=(l.take i).filter Q++if Q x then [x] else []:=by
 rw [dD h,List.filter_append]
 congr 1
 cases g:Q x with
 |true=>rw [List.filter_cons_of_pos g];rfl
 |false=>rw [List.filter_cons_of_neg (by rw [g];exact Bool.false_ne_true)];rfl
theorem Cg{α:Type}{l:List α}{i n:Nat}(Q:α→Bool)(h:l.length≤n):((l.take i).filter Q).length≤n:=by
 refine Nat.le_trans (List.length_filter_le _ _) ?_
 rw [List.length_take];omega
theorem YX(l:List vZ)(d:Int)(k:Nat):(l.map lN).find? (fun x=>match x with| .tup [.int a, .str [b],_,_]=>decide (a=d)&&decide (b=k)|_=>false)=(l.find? fun n=>decide (n.d=d)&&decide (n.k=k)).map lN:=by
 rw [List.find?_map];rfl
theorem aip{E:DEn}{db:DS}{l:List vZ}{d:Int}{k:Nat}{ρ:Rh}(Pv:Rh→Prop){dg:DG}(mono: ∀x ρ (A B:Rh→Prop),(∀r,A r→B r)→dg x ρ A→dg x ρ B)(p:Pv ρ)
  (hs: ∀n:vZ, ∀ρ,Pv ρ→dg (lN n) ρ fun ρ'=> ∀nx:Rh→Prop,(¬(n.d=d∧n.k=k)→ ∀r,Pv r→nx r)→(n.d=d∧n.k=k→E.rt (.tup [.int n.lo, .int n.hi]))→db { nx:=nx,ct:=nx,bk:=E.nx,rt:=E.rt,rn:=E.rn,rg:=E.rg } ρ')
  (h1:cH l d k=(0,0)→ ∀ρ,Pv ρ→E.nx ρ) (h2:E.rt (.tup [.int (cH l d k).1, .int (cH l d k).2])):wU dg db E (l.map lN) ρ:=by
 refine Yp (fun x=>match x with| .tup [.int a, .str [b],_,_]=>decide (a=d)&&decide (b=k)|_=>false) (fun x=>match x with| .tup [_,_,a,b]=> .tup [a,b]|_=> .non) Pv mono p ?_ ?_ ?_
 ·intro x hx ρ pr
  obtain ⟨n,_,rfl⟩:=List.mem_map.mp hx
  refine mono _ _ _ _ ?_ (hs n ρ pr)
  intro r hr nx g1 g2
  refine hr nx (fun z=>g1 ?_) fun z=>g2 ?_
  ·show (decide (n.d=d)&&decide (n.k=k))=false
   simpa using z
  ·show (decide (n.d=d)&&decide (n.k=k))=true
   simpa using z
 ·intro a
  rw [YX] at a
  refine h1 ?_
  unfold cH
  cases q:l.find? fun n=>decide (n.d=d)&&decide (n.k=k) with
  |none=>rfl
  |some n=>rw [q] at a;cases a
 ·intro x a
  rw [YX] at a
  unfold cH at h2
  cases q:l.find? fun n=>decide (n.d=d)&&decide (n.k=k) with
  |none=>rw [q] at a;cases a
  |some n=>
   rw [q] at a h2;cases a
   exact h2
theorem aaZ(lv:List (Tx×Int)):eY (lv.map jC)=true∧jT (lv.map jC)≤1:=by
 induction lv with
 |nil=>exact ⟨rfl,by simp [jT]⟩
 |cons p l ih=>
  refine ⟨?_, ?_⟩
  ·simp only [List.map_cons,eY,ih.1,Bool.and_true]
   rfl
  ·simp only [List.map_cons,jT]
   have:fL (jC p)=1:=by simp [jC,fL,jT]
   omega
theorem Ci(lv:List (Tx×Int))(a:Tx)(d:Int):((lv.map jC).any fun y=>eqD y (.tup [.str a, .int d]))=lv.any fun q=>decide (q=(a,d)):=by
 rw [List.any_map]
 congr 1
 funext q
 show eqD (jC q) _=_
 refine xm ?_
 unfold jC
 constructor
 ·intro e;simp at e;exact Prod.ext e.1 e.2
 ·intro e;rw [e]
theorem Vo(lv:List (Tx×Int)):bu (.lst (lv.map jC))=true∧fL (.lst (lv.map jC))≤60:=by
 obtain ⟨h1,h2⟩:=aaZ lv
 exact ⟨by simpa [bu] using h1,by simp only [fL];omega⟩
theorem Kf(a:Tx)(d:Int):bu (.tup [.str a, .int d])=true∧fL (.tup [.str a, .int d])≤60:=⟨rfl,by simp [fL,jT]⟩
theorem Vp(A:Ad): ∀ds Q,lu A ds Q→Gm A { nx:=fun _=>Q .non,rt:=Q } (bM ["self","day","kind","at","sort","least","most"] ds):=by
 intro ds Q h
 unfold lu at h
 split at h<;>first|exact False.elim h|skip
 rename_i x d k
 obtain ⟨n,ks,l,ps,lv,ws,rs,pr,rfl,h⟩:=h
 unfold Gm bA
 walk_at "dl0"
 walk_at "dq"
 refine aip (d:=d) (k:=k) (fun ρ=> ∃a b c e,ρ=[Sl.sh (bA A n ks (l.map lN) ps lv ws rs pr),Sl.sh (.int d),Sl.sh (.str [k]),a,b,c,e]) (e_ (aM aG (aM aG (aM aG (aM aG du))))) ⟨_,_,_,_,rfl⟩ ?_ ?_ h
 ·rintro m ρ ⟨a,b,c,e,rfl⟩
  unfold lN
  walk_at "dq"
  refine ⟨rfl, ?_⟩
  intro nx h1 h2
  refine cV (fun q=> ?_) (fun q=> ?_)
  ·walk_at "dq"
   refine cV (fun q2=> ?_) (fun q2=> ?_)
   ·walk_at "dq"
    exact h2 ⟨q,by simpa using q2⟩
   ·walk_at "dq"
    exact h1 (fun z=>q2 (by rw [z.2])) _ ⟨_,_,_,_,rfl⟩
  ·walk_at "dq"
   exact h1 (fun z=>q z.1) _ ⟨_,_,_,_,rfl⟩
 ·rintro e ρ ⟨a,b,c,f,rfl⟩
  walk_at "dq"
  rw [e] at h
  exact h
theorem X7(A:Ad): ∀ds Q,mJ A ds Q→LK A { nx:=fun _=>Q .non,rt:=Q } (bM ["self","p","day","person","found","kind"] ds):=by
 intro ds Q h
 unfold mJ at h
 split at h<;>first|exact False.elim h|skip
 rename_i x p d
 obtain ⟨n,ks,l,ps,lv,ws,rs,pr,rfl,hk,q,⟨hp,hq⟩,h⟩:=h
 unfold LK bA
 walk_at "dl0"
 walk_at "tq"
 rw [tD _ hp,List.getElem?_map,hq,Option.map_some]
 walk_at "dq"
 refine ⟨Kf _ _,Vo lv, ?_⟩
 try simp only [Bool.false_eq_true,if_false]
 rw [Ci]
 unfold Ov at h
 refine jy (fun g=> ?_) (fun g=> ?_)
 ·walk_at "tq"
  rw [if_pos g] at h
  exact h
 rw [if_neg (by rw [g];exact Bool.false_ne_true)] at h
 walk_at "tq"
 have ef:(acS l ks d).filter (fun k=>decide (k∈q.skills))=ks.filter fun k=>decide (k∈q.skills)&&decide (0<(cH l d k).2):=by
  unfold acS
  rw [List.filter_filter]
 rw [ef] at h
 refine bH (fun i ρ=> ∃b,ρ=[Sl.sh (bA A n ks (l.map lN) ps (lv.map jC) ws rs pr),Sl.sh (.int p),Sl.sh (.int d),Sl.sh (eU A q),Sl.sh (.str ((ks.take i).filter fun k=>decide (k∈q.skills)&&decide (0<(cH l d k).2))),b]) ⟨_,rfl⟩ ?_ aG ?_
 ·rintro i x ρ hx ⟨b,rfl⟩
  obtain ⟨c,hc,rfl⟩:=yX hx
  rw [dD hc,List.filter_append]
  have hl:((ks.take i).filter fun k=>decide (k∈q.skills)&&decide (0<(cH l d k).2)).length≤100:=Nat.le_trans (List.length_filter_le _ _) (by rw [List.length_take];omega)
  generalize ((ks.take i).filter fun k=>decide (k∈q.skills)&&decide (0<(cH l d k).2))=u at hl
  walk_at "tq"
  intro nx hnx
  simp only [Bool.false_eq_true,if_false]
  refine cV (fun g1=> ?_) (fun g1=> ?_)
  ·walk_at "tq"
   refine aV (by simp only [List.lookup,DL.vP,DL.uf,DL.uh,DL.qm,DL.ug,DL.rH,DL.uo,DL.ul]) ⟨rfl,rfl⟩ ?_
   walk_at "tq"
   refine ⟨n,ks,l,ps,lv.map jC,ws,rs,pr,rfl, ?_⟩
   refine cV (fun g2=> ?_) (fun g2=> ?_)
   ·walk_at "tq"
    refine ⟨by rw [szl];simp only [List.length_cons,List.length_nil];omega,hnx _ ⟨Sl.sh (.str [c]), ?_⟩⟩
    rw [List.filter_cons_of_pos (by simp [g1,g2])]
    rfl
   ·walk_at "tq"
    refine hnx _ ⟨Sl.sh (.str [c]), ?_⟩
    rw [List.filter_cons_of_neg (by simp [g1,g2])]
    simp
  ·walk_at "tq"
   refine hnx _ ⟨Sl.sh (.str [c]), ?_⟩
   rw [List.filter_cons_of_neg (by simp [g1])]
   simp
 ·rintro ρ ⟨b,rfl⟩
  rw [yW,List.take_length]
  walk_at "tq"
  exact h
theorem atc{α:Type}(z:List α){n:Nat}(hn:0<n):cut z (some (-(n:Int))) none=z.drop (z.length - n):=by
 unfold cut
 simp only [HT.sIx,if_pos (show -(n:Int)<0 by omega)]
 rw [List.take_of_length_le (by rw [List.length_drop];exact Nat.le_refl _)]
 congr 1
 omega
theorem aiq{rs:List (Tx×R)}{i:Nat}(h:i<rs.length):(FW rs)[i]? =some (i,rs[i]):=by
 unfold FW
 rw [List.getElem?_zip_eq_some]
 exact ⟨by rw [List.getElem?_range h],List.getElem?_eq_getElem h⟩
theorem vp(rs:List (Tx×R)):(FW rs).length=rs.length:=by
 unfold FW;rw [List.length_zip,List.length_range];omega
theorem ais{rs:List Pr}{i:Nat}(h:i<rs.length):(FZ rs)[i]? =some (i,rs[i]):=by
 unfold FZ
 rw [List.getElem?_zip_eq_some]
 exact ⟨by rw [List.getElem?_range h],List.getElem?_eq_getElem h⟩
theorem Kg(rs:List Pr):(FZ rs).length=rs.length:=by
 unfold FZ;rw [List.length_zip,List.length_range];omega
theorem zL(A:Ad): ∀ds Q,gD A ds Q→tY A { nx:=fun _=>Q .non,rt:=Q } (bM ["self","p","found","number","name","rule"] ds):=by
 intro ds Q h
 unfold gD at h
 split at h<;>first|exact False.elim h|skip
 rename_i x p
 obtain ⟨hs,rfl,hl,q,⟨p0,hq⟩,h⟩:=h
 unfold tY aJ bA
 walk_at "dl0"
 walk_at "tq"
 rw [List.length_map]
 refine ⟨by simp only [fM];omega, ?_⟩
 refine bH (fun i ρ=> ∃(a3 a4 a5:Sl),ρ=[.sh (aJ A hs), .sh (.int p), .ow (.lst ((((FW hs.rs).take i).filter (bnQ q)).map (bnD A))),a3,a4,a5]) ⟨_,_,_,rfl⟩ ?_ aG ?_
 ·rintro i x ρ hx ⟨a3,a4,a5,rfl⟩
  obtain ⟨rfl,hi⟩:=jA hx
  have hi:i<hs.rs.length:=by omega
  have hz:=aiq hi
  have gz:ixD (hs.rs.map (rlD A)) (i:Int)=some (.tup [.str hs.rs[i].1,rW A hs.rs[i].2]):=by rw [dO,List.getElem?_map,List.getElem?_eq_getElem hi];rfl
  have gp:ixD (hs.ps.map (eU A)) p=some (eU A q):=by rw [tD _ p0,List.getElem?_map,hq,Option.map_some]
  have hl2:=Cg (i:=i) (bnQ q) (show (FW hs.rs).length≤100 by rw [vp];exact hl)
  rw [v_ hz]
  generalize ((FW hs.rs).take i).filter (bnQ q)=u at hl2
  generalize hs.rs[i]=z at gz
  rw [bV]
  unfold aJ bA
  walk_at "tq"
  intro nx hnx
  rw [gz]
  walk_at "tq"
  refine ⟨rfl, ?_⟩
  refine an5 (j:=decide (z.1=q.name)) (fun _ PB h=> ?_) (fun g=> ?_) (fun g=> ?_)
  ·walk_at "tq"
   rw [gp]
   unfold eU
   walk_at "tq"
   exact h
  ·walk_at "tq"
   have g:bnQ q (i,z)=true:=g
   rw [if_pos g,List.map_append] at hnx
   exact ⟨by rw [List.length_map,szl];omega,hnx _ ⟨_,_,_,rfl⟩⟩
  ·walk_at "tq"
   have g:bnQ q (i,z)=false:=g
   rw [if_neg (by rw [g];exact Bool.false_ne_true),List.append_nil] at hnx
   exact hnx _ ⟨_,_,_,rfl⟩
 ·rintro ρ ⟨a3,a4,a5,rfl⟩
  rw [dM,Int.toNat_natCast, ←vp,List.take_length]
  walk_at "tq"
  exact h
end K67
set_option maxHeartbeats 0
namespace K67
open PySem L2 DL
theorem an6{A:Ad}{n:Nat}{r:R}{z:Tx}{dr:DA}{ρ:Rh}{P:D→Prop}(h:depth r≤n)(hz:z.length≤1000)(hd: ∀PL:List D→Prop,PL [.str z]→dr ρ PL)(p:P (.bl (uB r z))):Ay (rW A r) (U7 A) "bad" dr ρ P:=by
 cases r with
 |never w=>exact aV (S:=kY _) (by simp only [List.lookup,DL.KZ]) ⟨rfl,rfl⟩ (hd _ ⟨w,rfl,p⟩)
 |nev f=>exact nomatch f
theorem an7{A:Ad}{n:Nat}{r:R}{dr:DA}{ρ:Rh}{P:D→Prop}(h:depth r≤n)(hd: ∀PL:List D→Prop,PL []→dr ρ PL)(p:P (.int (iT r))):Ay (rW A r) (FT A) "reach" dr ρ P:=by
 cases r with
 |never w=>exact aV (S:=jm _) (by simp only [List.lookup,DL.zR]) ⟨rfl,rfl⟩ (hd _ ⟨w,rfl,p⟩)
 |nev f=>exact nomatch f
end K67
set_option maxHeartbeats 0
namespace K67
open PySem L2 DL
theorem Mf{r:Tx}{d:Int}(h0:0≤d)(h1:d<r.length):ixD r d=some (mk r d):=by
 rw [rG h0 h1]
 unfold mk
 rw [List.getD_eq_getElem?_getD,List.getElem?_eq_getElem (by omega),Option.getD_some]
theorem adf(c:Nat):decide ([c]=([45]:Tx))=decide (c=45):=by
 congr 1;simp
def atd(A:Ad)(q:i_×Tx):D:= .tup [eU A q.1, .str q.2]
theorem az4(A:Ad)(ps:List i_)(rows:List Tx):((ps.map (eU A)).zip (rows.map D.str)).map (fun p=>D.tup [p.1,p.2])=(ps.zip rows).map (atd A):=by
 rw [List.zip_map,List.map_map];rfl
theorem aa0{ps:List i_}{rows:List Tx}{i:Nat}{q:i_×Tx}(h:(ps.zip rows)[i]? =some q):q.2∈rows:=by
 obtain ⟨_,g2⟩:=List.getElem?_zip_eq_some.mp h
 exact List.mem_of_getElem? g2
theorem Vq{ps:List i_}{rows:List Tx}(h:ps.length≤100):(ps.zip rows).length≤100:=by
 rw [List.length_zip];omega
theorem Kh(A:Ad): ∀ds Q,fY A ds Q→yr A { nx:=fun _=>Q .non,rt:=Q } (bM ["house","rota","day","found","person","row"] ds):=by
 intro ds Q h
 unfold fY at h
 split at h<;>first|exact False.elim h|skip
 rename_i x y d
 obtain ⟨hs,rows,rfl,rfl,⟨⟨⟨d0,d1⟩,hp,hpr⟩,⟨hk,hpa⟩,hr⟩,h⟩:=h
 have hz:=Vq (rows:=rows) hp
 unfold yr aJ bA cR
 walk_at "dl0"
 walk_at "dq"
 rw [az4]
 refine bH (fun i ρ=> ∃b c,ρ=[Sl.sh (aJ A hs),Sl.sh (cR rows),Sl.sh (.int d),Sl.ow (flD ((((hs.ps.zip rows).take i).filter (skQ d)).map (skD d))),b,c]) ⟨_,_,rfl⟩ ?_ (e_ (aM aG (aM aG du))) ?_
 ·rintro i x ρ hx ⟨b,c,rfl⟩
  obtain ⟨q,hq,rfl⟩:=gA hx
  have hl:=Cg (i:=i) (skQ d) hz
  have hrl:=hr _ (aa0 hq)
  rw [v_ hq]
  generalize ((hs.ps.zip rows).take i).filter (skQ d)=u at hl
  unfold atd eU flD
  walk_at "dq"
  refine ⟨rfl, ?_⟩
  intro nx hnx
  rw [Mf d0 hrl.1]
  walk_at "dq"
  refine GJ (j:= !decide (mk q.2 d∈q.1.skills)) (fun g PB hPB=> ?_) (fun g=> ?_) (fun g=> ?_)
  ·walk_at "dq"
   rw [Mf d0 hrl.1]
   walk_at "dq"
   simpa using hPB
  ·rw [adf] at g
   have g:skQ d q=true:=g
   walk_at "dq"
   rw [Mf d0 hrl.1]
   walk_at "dq"
   refine ⟨by rw [szl,List.length_map,List.length_map];omega,hnx _ ⟨.sh (eU A q.1), .sh (.str q.2), ?_⟩⟩
   rw [if_pos g,List.map_append,List.map_append]
   rfl
  ·rw [adf] at g
   have g:skQ d q=false:=g
   walk_at "dq"
   refine hnx _ ⟨.sh (eU A q.1), .sh (.str q.2), ?_⟩
   rw [if_neg (by rw [g];exact Bool.false_ne_true),List.append_nil]
   rfl
 ·rintro ρ ⟨b,c,rfl⟩
  rw [List.length_map,List.take_length]
  walk_at "dq"
  exact ⟨trivial,h⟩
theorem Kl(A:Ad): ∀ds Q,fZ A ds Q→yt A { nx:=fun _=>Q .non,rt:=Q } (bM ["house","rota","day","found","person","row"] ds):=by
 intro ds Q h
 unfold fZ at h
 split at h<;>first|exact False.elim h|skip
 rename_i x y d
 obtain ⟨hs,rows,rfl,rfl,⟨⟨⟨d0,d1⟩,hp,hpr⟩,⟨hk,hpa⟩,hr⟩,h⟩:=h
 have hz:=Vq (rows:=rows) hp
 unfold yt aJ bA cR
 walk_at "dl0"
 walk_at "dq"
 rw [az4]
 refine bH (fun i ρ=> ∃b c,ρ=[Sl.sh (aJ A hs),Sl.sh (cR rows),Sl.sh (.int d),Sl.ow (flD ((((hs.ps.zip rows).take i).filter (lvQ hs.lv d)).map (lvD d))),b,c]) ⟨_,_,rfl⟩ ?_ (e_ (aM aG (aM aG du))) ?_
 ·rintro i x ρ hx ⟨b,c,rfl⟩
  obtain ⟨q,hq,rfl⟩:=gA hx
  have hl:=Cg (i:=i) (lvQ hs.lv d) hz
  have hrl:=hr _ (aa0 hq)
  rw [v_ hq]
  generalize ((hs.ps.zip rows).take i).filter (lvQ hs.lv d)=u at hl
  unfold atd eU flD
  walk_at "dq"
  refine ⟨rfl, ?_⟩
  intro nx hnx
  rw [Mf d0 hrl.1]
  walk_at "dq"
  refine GJ (j:=hs.lv.any fun z=>decide (z=(q.1.name,d))) (fun g PB hPB=> ?_) (fun g=> ?_) (fun g=> ?_)
  ·unfold aJ bA
   walk_at "dq"
   refine ⟨Kf _ _,Vo hs.lv, ?_⟩
   simp only [Bool.false_eq_true,if_false]
   rw [Ci]
   exact hPB
  ·rw [adf] at g
   have g:lvQ hs.lv d q=true:=g
   walk_at "dq"
   rw [Mf d0 hrl.1]
   walk_at "dq"
   refine ⟨by rw [szl,List.length_map,List.length_map];omega,hnx _ ⟨.sh (eU A q.1), .sh (.str q.2), ?_⟩⟩
   rw [if_pos g,List.map_append,List.map_append]
   rfl
  ·rw [adf] at g
   have g:lvQ hs.lv d q=false:=g
   walk_at "dq"
   refine hnx _ ⟨.sh (eU A q.1), .sh (.str q.2), ?_⟩
   rw [if_neg (by rw [g];exact Bool.false_ne_true),List.append_nil]
   rfl
 ·rintro ρ ⟨b,c,rfl⟩
  rw [List.length_map,List.take_length]
  walk_at "dq"
  exact ⟨trivial,h⟩
theorem O_(A:Ad): ∀ds Q,h_ A ds Q→Ab A { nx:=fun _=>Q .non,rt:=Q } (bM ["house","rota","day","found","person","row","many","mark"] ds):=by
 intro ds Q h
 unfold h_ at h
 split at h<;>first|exact False.elim h|skip
 rename_i x y d
 obtain ⟨hs,rows,rfl,rfl,⟨⟨⟨d0,d1⟩,hp,hpr⟩,⟨hk,hpa⟩,hr⟩,h⟩:=h
 have hz:=Vq (rows:=rows) hp
 unfold Ab aJ bA cR
 walk_at "dl0"
 walk_at "dq"
 rw [az4]
 refine bH (fun i ρ=> ∃b c e f,ρ=[Sl.sh (aJ A hs),Sl.sh (cR rows),Sl.sh (.int d),Sl.ow (flD ((((hs.ps.zip rows).take i).filter (moQ d)).map (moD d))),b,c,e,f]) ⟨_,_,_,_,rfl⟩ ?_ (e_ (aM aG (aM aG du))) ?_
 ·rintro i x ρ hx ⟨b,c,e,f,rfl⟩
  obtain ⟨q,hq,rfl⟩:=gA hx
  have hl:=Cg (i:=i) (moQ d) hz
  have hrl:=hr _ (aa0 hq)
  rw [v_ hq]
  generalize ((hs.ps.zip rows).take i).filter (moQ d)=u at hl
  unfold atd eU flD
  walk_at "dq"
  refine ⟨rfl, ?_⟩
  intro nx hnx
  have hcl:=vL q.2 none (some (d+1))
  refine ⟨by rw [szl];simp only [eO,List.length_map];omega, ?_⟩
  refine QM (ad3 fun c=> !decide (c=45)) (fun x=>x) ?_ ?_
  ·intro x hx Y N hY hN
   obtain ⟨c,_,rfl⟩:=ahI hx
   simp only [eZ,List.set]
   walk_at "dq"
   refine ab0 (fun q=> ?_) (fun q=> ?_)
   ·walk_at "dq"
    exact hY (by simpa [acf] using q)
   ·exact hN (by simpa [acf] using q)
  rw [List.map_id',ahK,ad2 _ (by omega),show (d+1).toNat=d.toNat+1 by omega]
  walk_at "dq"
  have e:(((eO ((q.2.take (d.toNat+1)).filter fun c=> !decide (c=45))).length:Nat):Int)=aeR q.2 d:=by
   unfold aeR eO
   rw [List.length_map]
  rw [e]
  rw [Mf d0 hrl.1]
  walk_at "dq"
  refine GJ (j:=decide (q.1.most<aeR q.2 d)) (fun g PB hPB=> ?_) (fun g=> ?_) (fun g=> ?_)
  ·walk_at "dq"
   exact hPB
  ·rw [adf] at g
   have g:moQ d q=true:=g
   walk_at "dq"
   refine ⟨by rw [szl,List.length_map,List.length_map];omega,hnx _ ⟨.sh (eU A q.1), .sh (.str q.2), .sh (.int (aeR q.2 d)),f, ?_⟩⟩
   rw [if_pos g,List.map_append,List.map_append]
   rfl
  ·rw [adf] at g
   have g:moQ d q=false:=g
   walk_at "dq"
   refine hnx _ ⟨.sh (eU A q.1), .sh (.str q.2), .sh (.int (aeR q.2 d)),f, ?_⟩
   rw [if_neg (by rw [g];exact Bool.false_ne_true),List.append_nil]
   rfl
 ·rintro ρ ⟨b,c,e,f,rfl⟩
  rw [List.length_map,List.take_length]
  walk_at "dq"
  exact ⟨trivial,h⟩
theorem Pa(A:Ad): ∀ds Q,ie A ds Q→Aj A { nx:=fun _=>Q .non,rt:=Q } (bM ["house","rota","day","found","kind","many","row","least","most"] ds):=by
 intro ds Q h
 unfold ie at h
 split at h<;>first|exact False.elim h|skip
 rename_i x y d
 obtain ⟨hs,rows,rfl,rfl,⟨⟨⟨d0,d1⟩,hp,hpr⟩,⟨hk,hpa⟩,hr⟩,h⟩:=h
 unfold Aj aJ bA
 walk_at "dl0"
 walk_at "dq"
 refine bH (fun i ρ=> ∃b c e f g,ρ=[Sl.sh (aJ A hs),Sl.sh (cR rows),Sl.sh (.int d),Sl.ow (flD (((hs.ks.take i).filter (neQ hs.l rows d)).map (neD rows d))),b,c,e,f,g]) ⟨_,_,_,_,_,rfl⟩ ?_ aG ?_
 ·rintro i x ρ hx ⟨b,c,e,f,g,rfl⟩
  obtain ⟨k,hq,rfl⟩:=yX hx
  have hl:=Cg (i:=i) (neQ hs.l rows d) hk
  rw [v_ hq]
  generalize (hs.ks.take i).filter (neQ hs.l rows d)=u at hl
  unfold flD cR
  walk_at "dq"
  intro nx hnx
  refine ⟨by rw [szl,List.length_map];omega, ?_⟩
  refine QM (fun x=>match x with| .str r=>decide (mk r d=k)|_=>false) (fun x=>x) ?_ ?_
  ·intro x hx Y N hY hN
   obtain ⟨r,hm,rfl⟩:=aas hx
   simp only [eZ,List.set]
   walk_at "dq"
   rw [Mf d0 (hr r hm).1]
   walk_at "dq"
   refine cV (fun q=> ?_) (fun q=> ?_)
   ·walk_at "dq"
    exact hY (by simpa using q)
   ·exact hN (by simpa using q)
  have e1:((List.filter (fun x:D=>match x with| .str r=>decide (mk r d=k)|_=>false) (rows.map D.str)).map fun x=>x)=(rows.filter fun r=>decide (mk r d=k)).map D.str:=by
   rw [List.map_id',List.filter_map]
   rfl
  rw [e1]
  walk_at "dq"
  have e2:((((rows.filter fun r=>decide (mk r d=k)).map D.str).length:Nat):Int)=acX rows d k:=by
   unfold acX
   rw [List.length_map]
  rw [e2]
  unfold aJ bA
  refine aV (by simp only [List.lookup,DL.vP,DL.uf,DL.uh,DL.qm,DL.ug,DL.rH,DL.uo,DL.ul]) ⟨rfl,rfl⟩ ?_
  walk_at "dq"
  refine ⟨_,_,hs.l,_,_,_,_,_,rfl,rfl, ?_⟩
  refine an5 (j:=decide ((cH hs.l d k).2<acX rows d k)) (fun g PB hPB=> ?_) (fun g=> ?_) (fun g=> ?_)
  ·walk_at "dq"
   exact hPB
  ·have g:neQ hs.l rows d k=true:=g
   walk_at "dq"
   refine ⟨by rw [szl,List.length_map,List.length_map];omega,hnx _ ⟨.sh (.str [k]), .sh (.int (acX rows d k)),e, .sh (.int (cH hs.l d k).1), .sh (.int (cH hs.l d k).2), ?_⟩⟩
   rw [if_pos g,List.map_append,List.map_append]
   rfl
  ·have g:neQ hs.l rows d k=false:=g
   walk_at "dq"
   refine hnx _ ⟨.sh (.str [k]), .sh (.int (acX rows d k)),e, .sh (.int (cH hs.l d k).1), .sh (.int (cH hs.l d k).2), ?_⟩
   rw [if_neg (by rw [g];exact Bool.false_ne_true),List.append_nil]
   rfl
 ·rintro ρ ⟨b,c,e,f,g,rfl⟩
  rw [yW,List.take_length]
  walk_at "dq"
  exact ⟨trivial,h⟩
end K67
set_option maxHeartbeats 0
namespace K67
open PySem L2 DL
theorem an8{A:Ad}{l:List i_}{p:Nat}(h:p<l.length):ixD (l.map (eU A)) (p:Int)=some (eU A l[p]):=by
 rw [dO,List.getElem?_map,List.getElem?_eq_getElem h];rfl
theorem yH{l:List Tx}{p:Nat}(h:p<l.length):ixD (l.map D.str) (p:Int)=some (.str l[p]):=by
 rw [dO,List.getElem?_map,List.getElem?_eq_getElem h];rfl
theorem ate{rs:List (Tx×R)}(h:rs.length≤100)(x:i_)(t:Tx)(d:Int):(ru1 rs x t d).length≤100:=by
 unfold ru1 lH
 rw [List.length_map]
 refine Nat.le_trans (List.length_filter_le _ _) (Nat.le_trans (List.length_filter_le _ _) ?_)
 rw [vp];exact h
theorem aa1{rs:List (Tx×R)}(h:rs.length≤100)(d:Int): ∀(l:List (i_×Tx)),(l.flatMap fun q=>ru1 rs q.1 (wI q.1 q.2 d) d).length≤100*l.length
 |[]=>by simp
 |q::l=>by
  rw [List.flatMap_cons,List.length_append]
  have a:=ate h q.1 (wI q.1 q.2 d) d
  have b:=aa1 h d l
  simp only [List.length_cons]
  omega
theorem YZ{rs:List (Tx×R)}{x:i_}{j:Nat}{z:Nat×(Tx×R)}(h:(lH rs x)[j]? =some z):z.2∈rs:=by
 have:=List.mem_of_getElem? h
 unfold lH FW at this
 exact (List.of_mem_zip (a:=z.1) (b:=z.2) (List.mem_filter.mp this).1).2
theorem Pb(A:Ad): ∀ds Q,ig A ds Q→Am A { nx:=fun _=>Q .non,rt:=Q } (bM ["house","rota","day","found","p","person","tail","number","rule"] ds):=by
 intro ds Q h
 unfold ig at h
 split at h<;>first|exact False.elim h|skip
 rename_i x y d
 obtain ⟨hs,rows,rfl,rfl,⟨⟨⟨d0,d1⟩,hp,hpr⟩,⟨hk,hpa⟩,hr⟩,⟨⟨hrl,hrk⟩,_⟩,h⟩:=h
 have hz:=Vq (rows:=rows) hp
 unfold Am cR
 walk_at "dl0"
 walk_at "tq"
 rw [List.length_map]
 refine ⟨by simp only [fM];omega, ?_⟩
 refine bH (fun i ρ=> ∃(a4 a5 a6 a7 a8:Sl),ρ=[.sh (aJ A hs), .sh (cR rows), .sh (.int d), .ow (flD (((hs.ps.zip rows).take i).flatMap fun q=>ru1 hs.rs q.1 (wI q.1 q.2 d) d)),a4,a5,a6,a7,a8]) ⟨_,_,_,_,_,rfl⟩ ?_ aG ?_
 ·rintro i x ρ hx ⟨a4,a5,a6,a7,a8,rfl⟩
  obtain ⟨rfl,hi⟩:=jA hx
  have hi:i<rows.length:=by omega
  have hi2:i<hs.ps.length:=by omega
  have hpi:=hpa _ (List.getElem_mem hi2)
  have hrl':=hr _ (List.getElem_mem hi)
  have gz:(hs.ps.zip rows)[i]? =some (hs.ps[i],rows[i]):=by
   rw [List.getElem?_zip_eq_some];exact ⟨List.getElem?_eq_getElem hi2,List.getElem?_eq_getElem hi⟩
  have gp:=an8 (A:=A) hi2
  have gr:=yH hi
  have gq:hs.ps[((i:Nat):Int).toNat]? =some hs.ps[i]:=by rw [Int.toNat_natCast];exact List.getElem?_eq_getElem hi2
  have bl:=aa1 hrl d ((hs.ps.zip rows).take i)
  have bt:((hs.ps.zip rows).take i).length≤100:=by rw [List.length_take];omega
  rw [dD gz,List.flatMap_append,List.flatMap_singleton]
  generalize (((hs.ps.zip rows).take i).flatMap fun q=>ru1 hs.rs q.1 (wI q.1 q.2 d) d)=B at bl
  generalize hs.ps[i]=p at gp gq hpi
  generalize rows[i]=r at gr hrl'
  rw [bV]
  unfold aJ bA cR
  walk_at "tq"
  intro nx hnx
  rw [gp]
  unfold eU
  walk_at "tq"
  rw [gr]
  walk_at "tq"
  rw [ad2 _ (by omega),show (d+1).toNat=d.toNat+1 by omega]
  have tl:(r.take (d.toNat+1)).length≤1000:=by rw [List.length_take];omega
  refine ⟨by rw [szl];omega, ?_⟩
  have ct:cut (p.past++r.take (d.toNat+1)) (some (-7)) none=wI p r d:=by
   have:=atc (p.past++r.take (d.toNat+1)) (n:=7) (by decide)
   rw [show (-((7:Nat):Int))= -7 from rfl] at this
   rw [this]
   unfold wI fu
   congr 1
   omega
  rw [ct]
  rw [show ru1 hs.rs (p,r).1 (wI (p,r).1 (p,r).2 d) d=((lH hs.rs p).filter fun z=>uB z.2.2 (wI p r d)).map fun z=>ruD d p z.1 from rfl] at hnx
  have tz:(wI p r d).length≤7:=by unfold wI fu;rw [List.length_drop];omega
  generalize wI p r d=t at hnx tz
  refine aV (by simp only [List.lookup,DL.tG,DL.rJ,DL.rM,DL.pO,DL.rK,DL.qJ,DL.rO,DL.rN]) ⟨rfl,rfl⟩ ?_
  walk_at "tq"
  refine ⟨hs,rfl,hrl,p,⟨by omega,gq⟩, ?_⟩
  have bb:(lH hs.rs p).length≤100:=Nat.le_trans (List.length_filter_le _ _) (by rw [vp];exact hrl)
  refine bH (fun j ρ=> ∃(a7 a8:Sl),ρ=[.sh (aJ A hs), .sh (cR rows), .sh (.int d), .ow (flD (B++(((lH hs.rs p).take j).filter fun z=>uB z.2.2 t).map fun z=>ruD d p z.1)), .sh (.int (i:Int)), .sh (eU A p), .sh (.str t),a7,a8]) ⟨a7,a8,by simp [aJ,bA,cR,eU]⟩ ?_ (e_ (aM aG (aM aG du))) ?_
  ·rintro j x ρ hx ⟨a7,a8,rfl⟩
   obtain ⟨z,hz,rfl⟩:=gA hx
   have hl2:=Cg (i:=j) (fun z:Nat×(Tx×R)=>uB z.2.2 t) bb
   rw [v_ hz]
   generalize ((lH hs.rs p).take j).filter (fun z=>uB z.2.2 t)=u at hl2
   unfold flD bnD eU
   walk_at "tq"
   refine ⟨rfl, ?_⟩
   intro nx' hnx'
   have hdz:depth z.2.2≤16:=by have:=(hrk z.2 (YZ hz)).1;omega
   refine an6 (n:=16) (z:=t) hdz (by omega) (fun Pl hp=>by walk_at "dq";exact hp) ?_
   walk_at "tq"
   refine jy (fun g=> ?_) (fun g=> ?_)
   ·walk_at "tq"
    simp only [if_pos g,List.map_append,List.append_assoc] at hnx' ⊢
    exact ⟨by simp only [List.length_append,List.length_map,szl];omega,hnx' _ ⟨_,_,rfl⟩⟩
   ·walk_at "tq"
    rw [if_neg (by rw [g];exact Bool.false_ne_true),List.append_nil] at hnx'
    exact hnx' _ ⟨_,_,rfl⟩
  ·rintro ρ ⟨a7,a8,rfl⟩
   rw [List.length_map,List.take_length]
   walk_at "tq"
   exact hnx _ ⟨_,_,_,_,_,rfl⟩
 ·rintro ρ ⟨a4,a5,a6,a7,a8,rfl⟩
  have el:(oX 0 ((rows.length:Nat):Int).toNat).length=(hs.ps.zip rows).length:=by rw [dM,List.length_zip];omega
  rw [el,List.take_length]
  walk_at "tq"
  exact ⟨trivial,h⟩
theorem Pg(A:Ad): ∀ds Q,ir A ds Q→Ak A { nx:=fun _=>Q .non,rt:=Q } (bM ["house","rota","day","found","number","word","name","other","one","two"] ds):=by
 intro ds Q h
 unfold ir at h
 split at h<;>first|exact False.elim h|skip
 rename_i x y d
 obtain ⟨hs,rows,rfl,rfl,⟨⟨⟨d0,d1⟩,hp,hpr⟩,⟨hk,hpa⟩,hr⟩,⟨_,⟨hpl,hpm⟩⟩,okp,h⟩:=h
 unfold Ak aJ bA cR
 walk_at "dl0"
 walk_at "tq"
 rw [List.length_map]
 refine ⟨by simp only [fM];omega, ?_⟩
 refine bH (fun i ρ=> ∃(a4 a5 a6 a7 a8 a9:Sl),ρ=[.sh (aJ A hs), .sh (cR rows), .sh (.int d), .ow (flD ((((FZ hs.pr).take i).filter (paQ hs rows d)).map (paD d))),a4,a5,a6,a7,a8,a9]) ⟨_,_,_,_,_,_,rfl⟩ ?_ aG ?_
 ·rintro i x ρ hx ⟨a4,a5,a6,a7,a8,a9,rfl⟩
  obtain ⟨rfl,hi⟩:=jA hx
  have hi:i<hs.pr.length:=by omega
  have hz:=ais hi
  have hm:=hpm _ (List.getElem_mem hi)
  have gz:ixD (hs.pr.map anS) (i:Int)=some (.tup [.str hs.pr[i].w, .str hs.pr[i].n, .str hs.pr[i].o]):=by rw [dO,List.getElem?_map,List.getElem?_eq_getElem hi];rfl
  have hl2:=Cg (i:=i) (paQ hs rows d) (show (FZ hs.pr).length≤100 by rw [Kg];exact hpl)
  rw [v_ hz]
  generalize ((FZ hs.pr).take i).filter (paQ hs rows d)=u at hl2
  generalize hs.pr[i]=z at gz hm
  have pl: ∀n:Tx,n∈hs.ps.map (·.name)→plN hs.ps n<hs.ps.length∧n=(hs.ps.map (·.name)).getD (plN hs.ps n) []:=fun n hn=>by
   have h1:=List.idxOf_lt_length_of_mem hn
   have h2:=h1
   rw [List.length_map] at h2
   refine ⟨h2, ?_⟩
   unfold plN
   simp only [List.getD,List.getElem?_eq_getElem h1,Option.getD_some]
   exact (List.getElem_idxOf h1).symm
  have row: ∀n:Nat,n<hs.ps.length→ixD (rows.map D.str) (n:Int)=some (.str (rows.getD n []))∧ixD (rows.getD n []) d=some (mk (rows.getD n []) d):=fun n hn=>by
   have hn2:n<rows.length:=by omega
   have e:rows.getD n []=rows[n]:=by simp only [List.getD,List.getElem?_eq_getElem hn2,Option.getD_some]
   rw [e]
   exact ⟨yH hn2,Mf d0 (hr _ (List.getElem_mem hn2)).1⟩
  obtain ⟨p1,p2⟩:=pl _ hm.1
  obtain ⟨p3,p4⟩:=pl _ hm.2
  obtain ⟨g1,g2⟩:=row _ p1
  obtain ⟨g3,g4⟩:=row _ p3
  rw [bV]
  unfold aJ bA flD cR
  walk_at "tq"
  intro nx hnx
  rw [gz]
  walk_at "tq"
  refine ⟨rfl, ?_⟩
  refine aV (by simp only [List.lookup,DL.oZ,DL.ni,DL.nu,DL.lF,DL.nq,DL.mD,DL.nJ,DL.nD]) ⟨rfl,rfl⟩ ?_
  walk_at "tq"
  refine ⟨_,_,_,hs.ps,_,_,_,_,plN hs.ps z.n,rfl,okp,p1,p2, ?_⟩
  rw [g1]
  walk_at "tq"
  rw [g2]
  walk_at "tq"
  refine aV (by simp only [List.lookup,DL.oZ,DL.ni,DL.nu,DL.lF,DL.nq,DL.mD,DL.nJ,DL.nD]) ⟨rfl,rfl⟩ ?_
  walk_at "tq"
  refine ⟨_,_,_,hs.ps,_,_,_,_,plN hs.ps z.o,rfl,okp,p3,p4, ?_⟩
  rw [g3]
  walk_at "tq"
  rw [g4]
  walk_at "tq"
  refine GJ (j:=(decide (mk (rows.getD (plN hs.ps z.n) []) d=mk (rows.getD (plN hs.ps z.o) []) d)==decide (z.w=yg))) (fun _ PB h=> ?_) (fun g=> ?_) (fun g=> ?_)
  ·walk_at "tq"
   rw [show ∀a b:Nat,decide ([a]=([b]:Tx))=decide (a=b) from fun a b=>by simp]
   exact h
  ·rw [adf] at g
   have g:paQ hs rows d (i,z)=true:=g
   walk_at "tq"
   simp only [if_pos g,List.map_append] at hnx
   exact ⟨by rw [List.length_map,List.length_map,szl];omega,hnx _ ⟨_,_,_,_,_,_,rfl⟩⟩
  ·rw [adf] at g
   have g:paQ hs rows d (i,z)=false:=g
   walk_at "tq"
   rw [if_neg (by rw [g];exact Bool.false_ne_true),List.append_nil] at hnx
   exact hnx _ ⟨_,_,_,_,_,_,rfl⟩
 ·rintro ρ ⟨a4,a5,a6,a7,a8,a9,rfl⟩
  rw [dM,Int.toNat_natCast, ←Kg,List.take_length]
  walk_at "tq"
  exact ⟨trivial,h⟩
end K67
set_option maxHeartbeats 0
namespace K67
open PySem L2 DL
theorem Y0(hs:Hs)(rows:List Tx)(n:Nat):aeS hs rows (n+1)=aeS hs rows n++as_ hs rows (n:Nat):=by
 unfold aeS
 rw [List.range_succ,List.flatMap_append]
 simp
theorem ahg{hs:Hs}{rows:List Tx}{d:Int}(ok:okF hs rows d)(oh:okH hs):(skF hs rows d).length≤100∧(lvF hs rows d).length≤100∧(neF hs rows d).length≤4∧(moF hs rows d).length≤100∧(ruF hs rows d).length≤10000∧(paF hs rows d).length≤100:=by
 have hzz:=Vq (rows:=rows) ok.1.2.1
 have a1:=List.length_filter_le (skQ d) (hs.ps.zip rows)
 have a2:=List.length_filter_le (lvQ hs.lv d) (hs.ps.zip rows)
 have a3:=List.length_filter_le (moQ d) (hs.ps.zip rows)
 have a4:=List.length_filter_le (neQ hs.l rows d) hs.ks
 have a5:=List.length_filter_le (paQ hs rows d) (FZ hs.pr)
 have a6:=aa1 oh.1.1 d (hs.ps.zip rows)
 have hk:=ok.2.1.1
 have hp:=oh.2.1
 have np:=Kg hs.pr
 refine ⟨?_, ?_, ?_, ?_, ?_, ?_⟩
 ·unfold skF;rw [List.length_map];omega
 ·unfold lvF;rw [List.length_map];omega
 ·unfold neF;rw [List.length_map];omega
 ·unfold moF;rw [List.length_map];omega
 ·unfold ruF;omega
 ·unfold paF;rw [List.length_map];omega
theorem adg{hs:Hs}{rows:List Tx}(oh:okH hs): ∀{n:Nat},(∀i:Nat,i<n→okF hs rows i)→(aeS hs rows n).length≤10404*n
 | 0,_=>by simp [aeS]
 |n+1,h=>by
  rw [Y0,List.length_append]
  have a:=adg oh (n:=n) fun i hi=>h i (by omega)
  obtain ⟨b1,b2,b3,b4,b5,b6⟩:=ahg (h n (by omega)) oh
  unfold as_
  simp only [List.length_append]
  omega
theorem aeY(A:Ad): ∀ds Q,rY A ds Q→adb A { nx:=fun _=>Q .non,rt:=Q } (bM ["house","rota","found","day"] ds):=by
 intro ds Q h
 unfold rY at h
 split at h<;>first|exact False.elim h|skip
 obtain ⟨hs,rows,rfl,rfl,⟨⟨⟨d0,d1⟩,ok⟩,oh,okp⟩,h⟩:=h
 unfold aeT at h
 unfold adb aJ bA
 walk_at "dl0"
 walk_at "tq"
 refine ⟨by simp only [fM];omega, ?_⟩
 refine bH (fun i ρ=> ∃s3:Sl,ρ=[Sl.sh (aJ A hs),Sl.sh (cR rows),Sl.sh (flD (aeS hs rows i)),s3]∧i≤hs.d.toNat) ⟨_,rfl,by omega⟩ ?_ aG ?_
 ·rintro i x ρ hx ⟨s3,rfl,hi⟩
  obtain ⟨rfl,hi⟩:=jA hx
  have okI:=ok i (by omega)
  have lA:=adg (hs:=hs) (rows:=rows) oh (n:=i) fun j hj=>ok j (by omega)
  obtain ⟨b1,b2,b3,b4,b5,b6⟩:=ahg okI oh
  have hi14:i<14:=by omega
  rw [bV]
  rw [Y0]
  unfold flD as_
  walk_at "tq"
  intro nx hnx
  refine ⟨hs,rows,rfl,rfl,okI, ?_⟩
  unfold flD
  walk_at "tq"
  refine ⟨by rw [szl];simp only [List.length_map];omega, ?_⟩
  refine ⟨hs,rows,rfl,rfl,okI, ?_⟩
  unfold flD
  walk_at "tq"
  refine ⟨by rw [szl];simp only [List.length_map,List.length_append];omega, ?_⟩
  refine ⟨hs,rows,rfl,rfl,okI, ?_⟩
  unfold flD
  walk_at "tq"
  refine ⟨by rw [szl];simp only [List.length_map,List.length_append];omega, ?_⟩
  refine ⟨hs,rows,rfl,rfl,okI, ?_⟩
  unfold flD
  walk_at "tq"
  refine ⟨by rw [szl];simp only [List.length_map,List.length_append];omega, ?_⟩
  refine ⟨hs,rows,rfl,rfl,okI,oh, ?_⟩
  unfold flD
  walk_at "tq"
  refine ⟨by rw [szl];simp only [List.length_map,List.length_append];omega, ?_⟩
  refine ⟨hs,rows,rfl,rfl,okI,oh,okp, ?_⟩
  unfold flD
  walk_at "tq"
  refine ⟨by rw [szl];simp only [List.length_map,List.length_append];omega, ?_⟩
  simp only [List.map_append,List.append_assoc] at hnx ⊢
  exact hnx _ ⟨.sh (.int i),rfl,by omega⟩
 ·rintro ρ ⟨s3,rfl,hi⟩
  rw [dM]
  walk_at "tq"
  exact h
end K67
set_option maxHeartbeats 0
namespace K67
open PySem L2 DL
theorem Vr(A:Ad): ∀ds Q,je A ds Q→Gq A { nx:=fun _=>Q .non,rt:=Q } (bM ["house","day","column","kind","least","most"] ds):=by
 intro ds Q hq
 unfold je at hq
 split at hq<;>first|exact False.elim hq|skip
 rename_i x d c
 obtain ⟨h,rfl,hq⟩:=hq
 unfold Gq aJ bA
 walk_at "dl0"
 walk_at "tq"
 refine bH (fun i ρ=> ∃(a3 a4 a5:Sl),ρ=[.sh (aJ A h), .sh (.int d), .sh (.str c),a3,a4,a5]∧(h.ks.take i).all (fun k=>Lp (cH h.l d k) (Ot k c))=true) ⟨_,_,_,rfl,rfl⟩ ?_ aG ?_
 ·rintro i x ρ hx ⟨a3,a4,a5,rfl,ha⟩
  obtain ⟨k,hk,rfl⟩:=yX hx
  rw [dD hk,List.all_append]
  have bad:Lp (cH h.l d k) (Ot k c)=false→Q (.bl false):=fun g=>by
   have:nR h d c=false:=List.all_eq_false.mpr ⟨k,List.mem_of_getElem? hk,by rw [g];exact Bool.false_ne_true⟩
   rw [this] at hq
   exact hq
  unfold aJ bA
  walk_at "tq"
  intro nx hnx
  refine aV (by walk_at "dq") ⟨rfl,rfl⟩ ?_
  walk_at "tq"
  refine ⟨_,_,_,_,_,_,_,_,rfl, ?_⟩
  walk_at "tq"
  refine ⟨rfl, ?_⟩
  refine cV (fun g=> ?_) (fun g=> ?_)
  ·walk_at "tq"
   exact bad (by unfold Lp;rw [decide_eq_false (by omega),Bool.false_and])
  ·walk_at "tq"
   refine cV (fun g2=> ?_) (fun g2=> ?_)
   ·walk_at "tq"
    exact bad (by unfold Lp;rw [decide_eq_false (p:=Ot k c≤_) (by omega),Bool.and_false])
   ·walk_at "tq"
    refine hnx _ ⟨_,_,_,rfl, ?_⟩
    rw [ha,Bool.true_and,List.all_cons,List.all_nil,Bool.and_true]
    unfold Lp
    rw [decide_eq_true (by omega),decide_eq_true (by omega)]
    rfl
 ·rintro ρ ⟨a3,a4,a5,rfl,ha⟩
  rw [yW,List.take_length] at ha
  walk_at "tq"
  have:nR h d c=true:=ha
  rw [this] at hq
  exact hq
theorem an9{h:Hs}{n:Tx}(hn:n∈h.ps.map (·.name)):plN h.ps n<h.ps.length∧n=(h.ps.map (·.name)).getD (plN h.ps n) []:=by
 have h1:=List.idxOf_lt_length_of_mem hn
 have h2:=h1
 rw [List.length_map] at h2
 refine ⟨h2, ?_⟩
 unfold plN
 simp only [List.getD,List.getElem?_eq_getElem h1,Option.getD_some]
 exact (List.getElem_idxOf h1).symm
theorem wg{l:Tx}{d:Nat}(h:d<l.length):l[d]? =some (l.getD d 0):=by simp [List.getD,h]
theorem Vs(A:Ad): ∀ds Q,jf A ds Q→Gr A { nx:=fun _=>Q .non,rt:=Q } (bM ["house","column","word","name","other","one","same"] ds):=by
 intro ds Q hq
 unfold jf at hq
 split at hq<;>first|exact False.elim hq|skip
 rename_i x c
 obtain ⟨h,rfl,ok,hc,hq⟩:=hq
 unfold Gr aJ bA
 walk_at "dl0"
 walk_at "tq"
 refine bH (fun i ρ=> ∃(a3 a4 a5 a6 a7:Sl),ρ=[.sh (aJ A h), .sh (.str c),a3,a4,a5,a6,a7]∧(h.pr.take i).all (J_ h c)=true) ⟨_,_,_,_,_,rfl,rfl⟩ ?_ (e_ (aM aG (aM aG (aM aG du)))) ?_
 ·rintro i x ρ hx ⟨a3,a4,a5,a6,a7,rfl,ha⟩
  obtain ⟨p,hp,rfl⟩:=gA hx
  obtain ⟨p0,p0b⟩:=ok.rp.2.2 _ (List.mem_of_getElem? hp)
  obtain ⟨p1,p1n⟩:=an9 p0
  obtain ⟨p2,p2n⟩:=an9 p0b
  rw [dD hp,List.all_append]
  have bad:J_ h c p=false→Q (.bl false):=fun g=>by
   have:pG h c=false:=List.all_eq_false.mpr ⟨p,List.mem_of_getElem? hp,by rw [g];exact Bool.false_ne_true⟩
   rw [this] at hq
   exact hq
  unfold aJ bA anS
  walk_at "tq"
  refine ⟨rfl, ?_⟩
  intro nx hnx
  refine aV (by walk_at "dq") ⟨rfl,rfl⟩ ?_
  walk_at "tq"
  refine ⟨_,_,_,_,_,_,_,_,plN h.ps p.n,rfl,ok.pn,p1,p1n, ?_⟩
  walk_at "tq"
  rw [dO,wg (show plN h.ps p.n<c.length by omega)]
  walk_at "tq"
  refine aV (by walk_at "dq") ⟨rfl,rfl⟩ ?_
  walk_at "tq"
  refine ⟨_,_,_,_,_,_,_,_,plN h.ps p.o,rfl,ok.pn,p2,p2n, ?_⟩
  walk_at "tq"
  rw [dO,wg (show plN h.ps p.o<c.length by omega)]
  walk_at "tq"
  have e1: ∀a b:Nat,decide (([a]:Tx)=[b])=decide (a=b):=fun a b=>by simp
  rw [e1,e1]
  refine GJ (j:=(decide (c.getD (plN h.ps p.o) 0=c.getD (plN h.ps p.n) 0)==decide (p.w=yg))) (fun _ PB hP=> ?_) (fun g=> ?_) (fun g=> ?_)
  ·walk_at "tq"
   exact hP
  ·walk_at "tq"
   refine bad ?_
   unfold J_
   revert g
   cases decide (c.getD (plN h.ps p.n) 0=45)<;>cases decide (c.getD (plN h.ps p.o) 0=c.getD (plN h.ps p.n) 0)<;>cases decide (p.w=yg)<;>decide
  ·walk_at "tq"
   refine hnx _ ⟨_,_,_,_,_,rfl, ?_⟩
   rw [ha,Bool.true_and,List.all_cons,List.all_nil,Bool.and_true]
   unfold J_
   revert g
   cases decide (c.getD (plN h.ps p.n) 0=45)<;>cases decide (c.getD (plN h.ps p.o) 0=c.getD (plN h.ps p.n) 0)<;>cases decide (p.w=yg)<;>decide
 ·rintro ρ ⟨a3,a4,a5,a6,a7,rfl,ha⟩
  rw [List.length_map,List.take_length] at ha
  walk_at "tq"
  have:pG h c=true:=ha
  rw [this] at hq
  exact hq
theorem Km(l:List Tx)(m:Tx):jd (l++[m])=jd l*m.length:=by
 unfold jd
 rw [List.foldl_append]
 rfl
theorem vq(l:List Tx)(m:Tx):nQ (l++[m])=qM (nQ l) m:=by
 unfold nQ
 rw [List.foldl_append]
 rfl
theorem adh(f:List Tx)(m:Tx):(qM f m).length=f.length*m.length:=by
 unfold qM
 induction f with
 |nil=>simp
 |cons c f ih=>rw [List.flatMap_cons,List.length_append,ih,List.length_map,List.length_cons,Nat.succ_mul];omega
theorem Y4(l:List Tx): ∀n,(nQ (l.take n)).length=jd (l.take n):=by
 intro n
 induction n with
 |zero=>rfl
 |succ n ih=>
  by_cases h:n<l.length
  ·rw [dD (List.getElem?_eq_getElem h),vq,Km,adh,ih]
  ·rw [List.take_of_length_le (by omega)] at ih ⊢
   exact ih
theorem an_{l:List Tx}(h: ∀m∈l,1≤m.length)(a b:Nat)(hab:a≤b):jd (l.take a)≤jd (l.take b):=by
 induction b with
 |zero=>rw [show a=0 by omega];exact Nat.le_refl _
 |succ b ih=>
  by_cases g:a=b+1
  ·subst g;exact Nat.le_refl _
  ·refine Nat.le_trans (ih (by omega)) ?_
   by_cases h2:b<l.length
   ·rw [dD (List.getElem?_eq_getElem h2),Km]
    exact Nat.le_mul_of_pos_right _ (h _ (List.getElem_mem h2))
   ·rw [List.take_of_length_le (by omega),List.take_of_length_le (by omega)]
    exact Nat.le_refl _
theorem Ko(l:List Tx): ∀n,n≤l.length→ ∀c∈nQ (l.take n),c.length=n:=by
 intro n
 induction n with
 |zero=>
  intro _ c hc
  have:c=[]:=by simpa [nQ] using hc
  rw [this];rfl
 |succ n ih=>
  intro hn c hc
  rw [dD (List.getElem?_eq_getElem (show n<l.length by omega)),vq] at hc
  unfold qM at hc
  obtain ⟨c',h1,h2⟩:=List.mem_flatMap.mp hc
  obtain ⟨m,_,rfl⟩:=List.mem_map.mp h2
  rw [List.length_append,ih (by omega) c' h1]
  rfl
theorem aa2{h:Hs}(ok:okB h)(p:Nat)(d:Int):(F_ h p d).length≤4:=by
 unfold F_
 split
 ·unfold Ov
  split
  ·simp
  ·have:=ok.ks.1
   refine Nat.le_trans (List.length_filter_le _ _) (Nat.le_trans (List.length_filter_le _ _) ?_)
   omega
 ·simp
theorem Y5{h:Hs}(ok:okB h)(d:Int): ∀m∈bf h d,1≤m.length∧m.length≤5:=fun m hm=>by
 obtain ⟨p,_,rfl⟩:=List.mem_map.mp hm
 have:=aa2 ok p d
 simp only [List.length_cons]
 omega
theorem aeZ{f:List Tx}{m:Tx}{n:Nat}(hf:f.Nodup)(hm:m.Nodup):(qM f m).Nodup:=by
 induction f with
 |nil=>exact List.nodup_nil
 |cons c f ih=>
  rw [List.nodup_cons] at hf
  unfold qM at ih ⊢
  rw [List.flatMap_cons,List.nodup_append]
  refine ⟨?_,ih hf.2, ?_⟩
  ·rw [List.nodup_iff_pairwise_ne,List.pairwise_map]
   rw [List.nodup_iff_pairwise_ne] at hm
   exact hm.imp fun {a b} ne e=>ne (by simpa using e)
  ·rintro a ha b hb rfl
   obtain ⟨z,_,rfl⟩:=List.mem_map.mp ha
   obtain ⟨c',hc',h2⟩:=List.mem_flatMap.mp hb
   obtain ⟨z',_,e⟩:=List.mem_map.mp h2
   have:c'=c:=by
    have:=congrArg List.dropLast e
    simpa using this
   exact hf.1 (this ▸ hc')
theorem ae0{l:List Tx}(h: ∀m∈l,m.Nodup): ∀n,(nQ (l.take n)).Nodup:=by
 intro n
 induction n with
 |zero=>simp [nQ]
 |succ n ih=>
  by_cases g:n<l.length
  ·rw [dD (List.getElem?_eq_getElem g),vq]
   exact aeZ (n:=0) ih (h _ (List.getElem_mem g))
  ·rw [List.take_of_length_le (by omega)] at ih ⊢
   exact ih
theorem aoa{h:Hs}(ok:okB h)(d:Int): ∀m∈bf h d,m.Nodup:=fun m hm=>by
 obtain ⟨p,_,rfl⟩:=List.mem_map.mp hm
 have sub:(F_ h p d).Sublist h.ks:=by
  unfold F_
  split
  ·unfold Ov
   split
   ·exact List.nil_sublist _
   ·exact (List.filter_sublist).trans List.filter_sublist
  ·exact List.nil_sublist _
 rw [List.nodup_cons]
 exact ⟨fun z=>ok.ks.2.2 (sub.subset z),sub.nodup ok.ks.2.1⟩
theorem ahh{h:Hs}(ok:okB h)(d:Int):(yh h d).Nodup:=by
 have z:=ae0 (aoa ok d) (bf h d).length
 rw [List.take_length] at z
 exact z.sublist List.filter_sublist
theorem ait{x y:Tx}(h: ¬y<x)(ne:x≠y):x<y:=by
 by_cases g:x<y
 ·exact g
 ·exact absurd (List.le_antisymm (List.not_lt.mp h) (List.not_lt.mp g)) ne
theorem aob: ∀{us:List Tx},lV us→us.Nodup→ ∀(k:Nat) (a b:Tx),us[k]? =some a→us[k+1]? =some b→a<b
 |[],_,_,k,a,b,h,_=>by simp at h
 |[x],_,_,k,a,b,_,h=>by simp at h
 |x::y::r,hs,hn,k,a,b,h1,h2=>by
  unfold lV at hs
  have hs:(!PySem.Spec.ltCps (aZ y).cps.toList (aZ x).cps.toList&&PyProof.Rows.risingS (aZ y) (r.map aZ))=true:=hs
  rw [Bool.and_eq_true] at hs
  obtain ⟨q1,q2⟩:=hs
  rw [List.nodup_cons] at hn
  cases k with
  |zero=>
   simp only [List.getElem?_cons_zero,Option.some.injEq,Nat.zero_add,List.getElem?_cons_succ] at h1 h2
   subst h1 h2
   have e1:PySem.Spec.ltCps (aZ y).cps.toList (aZ x).cps.toList=decide (y<x):=Yr y x
   rw [e1] at q1
   exact ait (by simpa using q1) fun z=>hn.1 (by rw [z];simp)
  |succ k=>
   simp only [List.getElem?_cons_succ] at h1 h2
   exact aob (us:=y::r) q2 hn.2 k a b h1 (by simpa using h2)
theorem avl: ∀{us:List Tx},lV us→us.Nodup→us.Pairwise (· < ·)
 |[],_,_=>List.Pairwise.nil
 |[x],_,_=>by simp
 |x::y::r,hs,hn=>by
  have h1:=aob hs hn 0 x y rfl rfl
  have hs2:lV (y::r):=by
   unfold lV at hs ⊢
   have hs:(!PySem.Spec.ltCps (aZ y).cps.toList (aZ x).cps.toList&&PyProof.Rows.risingS (aZ y) (r.map aZ))=true:=hs
   rw [Bool.and_eq_true] at hs
   exact hs.2
  rw [List.nodup_cons] at hn
  have ih:=avl hs2 hn.2
  refine List.Pairwise.cons (fun z hz=> ?_) ih
  rcases List.mem_cons.mp hz with e|e
  ·rw [e];exact h1
  ·exact List.lt_trans h1 (List.rel_of_pairwise_cons ih e)
theorem ahi: ∀{l m:List Tx},l.Pairwise (· < ·)→m.Pairwise (· < ·)→(∀x,x∈l↔x∈m)→l=m
 |[],[],_,_,_=>rfl
 |[],b::m,_,_,h=>absurd ((h b).mpr (by simp)) (by simp)
 |a::l,[],_,_,h=>absurd ((h a).mp (by simp)) (by simp)
 |a::l,b::m,hl,hm,h=>by
  rw [List.pairwise_cons] at hl hm
  have e:a=b:=by
   rcases List.mem_cons.mp ((h a).mp (by simp)) with z|z
   ·exact z
   ·rcases List.mem_cons.mp ((h b).mpr (by simp)) with y|y
    ·exact y.symm
    ·exact absurd (hl.1 b y) (List.lt_asymm (hm.1 a z))
  subst e
  congr 1
  refine ahi hl.2 hm.2 fun x=>⟨fun hx=> ?_,fun hx=> ?_⟩
  ·rcases List.mem_cons.mp ((h x).mp (by simp [hx])) with z|z
   ·subst z;exact absurd (hl.1 x hx) (List.lt_irrefl x)
   ·exact z
  ·rcases List.mem_cons.mp ((h x).mpr (by simp [hx])) with z|z
   ·subst z;exact absurd (hm.1 x hx) (List.lt_irrefl x)
   ·exact z
theorem vz{a b:Tx}:aeU a b=true↔a≤b:=by
 unfold aeU
 rw [Bool.not_eq_true',decide_eq_false_iff_not]
 exact Iff.rfl
theorem ae1(a b:Tx):aeU a b=true∨aeU b a=true:=by
 rcases List.le_total a b with z|z
 ·exact .inl (vz.mpr z)
 ·exact .inr (vz.mpr z)
theorem mG(h:Hs)(d:Int):(gQ h d).Perm (yh h d):=List.mergeSort_perm _ _
theorem aoc{h:Hs}(ok:okB h)(d:Int):(gQ h d).Pairwise (· < ·):=by
 have s:(gQ h d).Pairwise fun a b=>aeU a b=true:=List.pairwise_mergeSort (le:=aeU) (fun a b c h1 h2=>vz.mpr (List.le_trans (vz.mp h1) (vz.mp h2))) (fun a b=>by rw [Bool.or_eq_true];exact ae1 a b) _
 have n:(gQ h d).Nodup:=(mG h d).nodup_iff.mpr (ahh ok d)
 rw [List.nodup_iff_pairwise_ne] at n
 refine (s.and n).imp fun {a b} z=> ?_
 obtain ⟨z1,z2⟩:=z
 have z1:=vz.mp z1
 refine Decidable.byContradiction fun g=>z2 ?_
 exact List.le_antisymm z1 (List.not_lt.mp g)
theorem aiu{h:Hs}(ok:okB h){d:Int}{us:List Tx}(h1:us.Perm (yh h d))(s1:lV us):us=gQ h d:=
 ahi (avl s1 (h1.nodup_iff.mpr (ahh ok d))) (aoc ok d) fun x=>h1.mem_iff.trans (mG h d).mem_iff.symm
def aDF(h:Hs)(d:Int):D→Bool
 | .str c=>nR h d c&&pG h c
 |_=>false
theorem adi(A:Ad): ∀ds Q Xc,jD A ds Q Xc→YQ A Xc { nx:=fun _=>Q .non,rt:=Q } (lU ["house","day","sorts","p","ways","marks","found","longer","column","mark"] [false,false] ds):=by
 intro ds Q Xc hq
 unfold jD at hq
 split at hq<;>first|exact False.elim hq|skip
 rename_i x d
 obtain ⟨h,rfl,ok,h1,h2⟩:=hq
 unfold YQ aJ bA
 walk_at "dl0"
 walk_at "tq"
 rw [List.length_map]
 have hpl:=ok.pl
 refine ⟨by simp only [fM];omega,by rw [dM,szl];omega, ?_⟩
 have e:oX 0 ((h.ps.length:Nat):Int).toNat=(List.range h.ps.length).map fun (i:Nat)=>D.int (0+(i:Int)):=rfl
 rw [e]
 refine fJ (fun (i:Nat)=>D.int (0+(i:Int))) (fun p=> .str (45::F_ h p d)) ?_ aG bU ?_
 ·intro p hp Q' hQ
  have hp:=List.mem_range.mp hp
  simp only [eZ,List.set]
  rw [bV]
  walk_at "tq"
  refine aV (by walk_at "dq") ⟨rfl,rfl⟩ ?_
  walk_at "tq"
  have hp2:p<(h.ps).length:=hp
  have em:F_ h p d=Ov h.ks h.l (h.ps)[p] h.lv d:=by unfold F_;rw [List.getElem?_eq_getElem hp2]
  refine ⟨_,_,_,_,_,_,_,_,rfl,by have:=ok.ks.1;omega,(h.ps)[p],⟨by omega,by rw [Int.toNat_natCast];exact List.getElem?_eq_getElem hp2⟩, ?_⟩
  rw [←em]
  walk_at "tq"
  have:=aa2 ok p d
  exact ⟨by walk_at "sz",hQ⟩
 rw [show (List.range h.ps.length).map (fun p=>D.str (45::F_ h p d))=(bf h d).map D.str by unfold bf;rw [List.map_map];rfl]
 have hsl:(bf h d).length=h.ps.length:=by simp [bf]
 have hsm:=Y5 ok d
 have h2:jd (bf h d)≤256→ ∀us:List Tx,us.Perm ((nQ (bf h d)).filter fun c=>nR h d c&&pG h c)→lV us→Q (.lst (us.map D.str)):=fun g us hp hs=>by
  rw [aiu ok hp hs];exact h2 g
 generalize bf h d=S at hsl hsm h1 h2
 walk_at "tq"
 refine bH (fun i ρ=> ∃(a3 a5 a6 a7 a8 a9:Sl),ρ=[.sh (aJ A h), .sh (.int d), .sh (.lst (S.map D.str)),a3, .sh (.int (jd (S.take i):Nat)),a5,a6,a7,a8,a9]) ⟨_,_,_,_,_,_,rfl⟩ ?_ aG ?_
 ·rintro i x ρ hx ⟨a3,a5,a6,a7,a8,a9,rfl⟩
  obtain ⟨m,hm,rfl⟩:=gA hx
  have hml:=hsm m (List.mem_of_getElem? hm)
  rw [dD hm,Km]
  walk_at "tq"
  intro nx hnx
  refine ⟨.inr (by omega), ?_⟩
  rw [←Int.natCast_mul]
  exact hnx _ ⟨_,_,_,_,_,_,rfl⟩
 ·rintro ρ ⟨a3,a5,a6,a7,a8,a9,rfl⟩
  rw [List.length_map,List.take_length]
  walk_at "tq"
  refine cV (fun g=> ?_) (fun g=> ?_)
  ·walk_at "tq"
   exact h1 (by omega)
  ·have hw:jd S≤256:=by omega
   have wle: ∀n,(nQ (S.take n)).length≤256:=fun n=>by
    rw [Y4]
    by_cases g:n≤S.length
    ·have:=an_ (fun m hm=>(hsm m hm).1) n S.length g
     rw [List.take_length] at this
     omega
    ·rw [List.take_of_length_le (by omega)];exact hw
   walk_at "tq"
   refine bH (fun i ρ=> ∃(a3 a4 a5 a7 a8 a9:Sl),ρ=[.sh (aJ A h), .sh (.int d), .sh (.lst (S.map D.str)),a3,a4,a5, .sh (.lst ((nQ (S.take i)).map D.str)),a7,a8,a9]) ⟨_,_,_,_,_,_,rfl⟩ ?_ aG ?_
   ·rintro i x ρ hx ⟨a3,a4,a5,a7,a8,a9,rfl⟩
    obtain ⟨m,hm,rfl⟩:=gA hx
    have hml:=hsm m (List.mem_of_getElem? hm)
    have hi:i<S.length:=(List.getElem?_eq_some_iff.mp hm).1
    have pl:=Ko S i (by omega)
    have w1:=wle (i+1)
    rw [dD hm,vq] at w1 ⊢
    have w0:=wle i
    generalize nQ (S.take i)=G at w0 w1 pl
    walk_at "tq"
    intro nx hnx
    refine bH (fun j ρ=> ∃(a3 a4 a8 a9:Sl),ρ=[.sh (aJ A h), .sh (.int d), .sh (.lst (S.map D.str)),a3,a4, .sh (.str m), .sh (.lst (G.map D.str)), .sh (.lst ((qM (G.take j) m).map D.str)),a8,a9]) ⟨_,_,_,_,rfl⟩ ?_ aG ?_
    ·rintro j x ρ hx ⟨a3,a4,a8,a9,rfl⟩
     obtain ⟨c,hc,rfl⟩:=gA hx
     have hcl:=pl c (List.mem_of_getElem? hc)
     have hj:j<G.length:=(List.getElem?_eq_some_iff.mp hc).1
     have sj:qM (G.take (j+1)) m=qM (G.take j) m++m.map fun z=>c++[z]:=by
      unfold qM
      rw [dD hc,List.flatMap_append]
      simp
     rw [sj]
     have s1:(qM (G.take j) m).length≤1280:=by
      rw [adh,List.length_take]
      exact Nat.le_trans (Nat.mul_le_mul (Nat.min_le_right _ _) hml.2) (by omega)
     walk_at "tq"
     intro nx2 hnx2
     refine ⟨by rw [szl];simp [eO];omega, ?_⟩
     refine fJ (l:=m) (fun z:Nat=>D.str [z]) (fun z=> .str (c++[z])) ?_ aG bU ?_
     ·intro z _ Q' hQ
      simp only [eZ,List.set]
      walk_at "tq"
      exact ⟨by walk_at "sz",hQ⟩
     rw [show m.map (fun z=>D.str (c++[z]))=(m.map fun z=>c++[z]).map D.str by rw [List.map_map];rfl]
     walk_at "tq"
     rw [←List.map_append]
     exact ⟨by rw [szl];simp only [List.length_map];omega,hnx2 _ ⟨_,_,_,_,rfl⟩⟩
    ·rintro ρ ⟨a3,a4,a8,a9,rfl⟩
     rw [List.length_map,List.take_length]
     walk_at "tq"
     exact hnx _ ⟨_,_,_,_,_,_,rfl⟩
   ·rintro ρ ⟨a3,a4,a5,a7,a8,a9,rfl⟩
    have pl:=Ko S S.length (Nat.le_refl _)
    have w0:=wle S.length
    rw [List.take_length] at pl w0
    rw [List.length_map,List.take_length]
    walk_at "tq"
    refine ⟨by rw [List.length_map,szl];omega, ?_⟩
    refine QM (aDF h d) id ?_ ?_
    ·intro x hx Y N hY hN
     obtain ⟨c,hc,rfl⟩:=aas hx
     have et:aDF h d (.str c)=(nR h d c&&pG h c):=rfl
     rw [et] at hY hN
     simp only [eZ,List.set]
     walk_at "tq"
     refine ⟨h,rfl, ?_⟩
     refine jy (fun g=> ?_) (fun g=> ?_)
     ·rw [g,Bool.true_and] at hY hN
      walk_at "tq"
      refine ⟨h,rfl,ok,by rw [pl c hc,hsl], ?_⟩
      refine jy (fun g2=> ?_) (fun g2=>hN g2)
      walk_at "tq"
      exact hY g2
     ·rw [g,Bool.false_and] at hN
      walk_at "tq"
      exact hN rfl
    rw [List.map_id,List.filter_map]
    walk_at "tq"
    refine ⟨_,rfl,fun us hp hs=> ?_⟩
    exact h2 hw us hp hs
end K67
set_option maxHeartbeats 0
namespace K67
open PySem L2 DL
theorem atf(a b:Int):a≤J9 a b∧b≤J9 a b:=by unfold J9;split<;>omega
theorem GP(l:List R): ∀(a:Int),(a≤l.foldl (fun a r=>J9 a (iT r)) a)∧(∀r∈l,iT r≤l.foldl (fun a r=>J9 a (iT r)) a)∧(l.foldl (fun a r=>J9 a (iT r)) a=a∨ ∃r∈l,l.foldl (fun a r=>J9 a (iT r)) a=iT r):=by
 induction l with
 |nil=>intro a;exact ⟨by simp,by simp, .inl rfl⟩
 |cons x l ih=>
  intro a
  rw [List.foldl_cons]
  obtain ⟨h1,h2,h3⟩:=ih (J9 a (iT x))
  have m:=atf a (iT x)
  refine ⟨by omega,fun r hr=> ?_, ?_⟩
  ·rcases List.mem_cons.mp hr with e|e
   ·subst e;omega
   ·exact h2 r e
  ·rcases h3 with e|⟨r,hr,e⟩
   ·rw [e]
    by_cases g:J9 a (iT x)=a
    ·exact .inl g
    ·refine .inr ⟨x,by simp, ?_⟩
     unfold J9 at g ⊢
     split at g<;>simp_all
   ·exact .inr ⟨r,by simp [hr],e⟩
theorem aod{l:List R}{m:Int}(h1:m∈(1:Int)::l.map iT)(h2: ∀y∈(1:Int)::l.map iT,y≤m):m=jF l:=by
 obtain ⟨a,b,c⟩:=GP l 1
 unfold jF
 have le:m≤l.foldl (fun a r=>J9 a (iT r)) 1:=by
  rcases List.mem_cons.mp h1 with e|e
  ·rw [e];exact a
  ·obtain ⟨r,hr,e⟩:=List.mem_map.mp e
   rw [←e];exact b r hr
 have ge:l.foldl (fun a r=>J9 a (iT r)) 1≤m:=by
  rcases c with e|⟨r,hr,e⟩
  ·rw [e];exact h2 1 (by simp)
  ·rw [e];exact h2 _ (by simp only [List.mem_cons,List.mem_map];exact .inr ⟨r,hr,rfl⟩)
 omega
theorem GX{h:Hs}{p:i_}{z:Nat×(Tx×R)}(hz:z∈lH h.rs p):z.2∈h.rs:=by
 obtain ⟨j,hj⟩:=List.mem_iff_getElem?.mp hz
 exact YZ hj
theorem Kr{rs:List (Tx×R)}(hl:rs.length≤100)(p:i_):(lH rs p).length≤100:=by
 unfold lH
 refine Nat.le_trans (List.length_filter_le _ _) ?_
 rw [vp];exact hl
theorem Cj(A:Ad): ∀ds Q,iz A ds Q→u9 A { nx:=fun _=>Q .non,rt:=Q } (bM ["self","p","number","rule"] ds):=by
 intro ds Q h
 unfold iz at h
 split at h<;>first|exact False.elim h|skip
 rename_i x p
 obtain ⟨h,rfl,ok,q,hp,hq⟩:=h
 have hb:=Kr ok.1.1 q
 unfold u9 aJ bA
 walk_at "dl0"
 walk_at "tq"
 refine aV (by walk_at "dq") ⟨rfl,rfl⟩ ?_
 walk_at "tq"
 refine ⟨h,rfl,ok.1.1,q,hp, ?_⟩
 walk_at "tq"
 refine ⟨by rw [List.length_map,szl];omega, ?_⟩
 refine fJ (bnD A) (fun z=> .int (iT z.2.2)) ?_ (e_ (aM aG (aM aG du))) bU ?_
 ·intro z hz Q' hQ
  have hd:=(ok.1.2 _ (GX hz)).1
  simp only [eZ,List.set]
  unfold bnD
  walk_at "tq"
  refine ⟨rfl, ?_⟩
  exact an7 (n:=16) (by omega) (fun PL h=>by walk_at "tq";exact h) hQ
 walk_at "tq"
 refine ⟨by simp only [List.length_cons,List.length_nil,List.length_map,szl];omega,(1:Int)::((lH h.rs q).map (·.2.2)).map iT,by rw [List.map_cons,List.map_map,List.map_map];rfl,by simp,fun m h1 h2=> ?_⟩
 rw [aod h1 h2]
 exact hq
theorem az5{α:Type}{ls:List α}(h:1=ls.length): ∃l,ls=[l]:=by
 match ls,h with
 |[l],_=>exact ⟨l,rfl⟩
theorem aa3{a b c d:D}:List.lookup (Str.ofString "lets") [(Str.ofString "rules",a),(Str.ofString "kept",b),(Str.ofString "most",c),(Str.ofString "begin",d)]=none∧List.lookup (Str.ofString "cut") [(Str.ofString "rules",a),(Str.ofString "kept",b),(Str.ofString "most",c),(Str.ofString "begin",d)]=none∧List.lookup (Str.ofString "looked") [(Str.ofString "rules",a),(Str.ofString "kept",b),(Str.ofString "most",c),(Str.ofString "begin",d)]=none:=⟨rfl,rfl,rfl⟩
theorem aoe{h:Hs}(ok:okH h)(q:i_):(jE h q).length≤100:=by
 unfold jE
 rw [List.length_map]
 exact Kr ok.1.1 q
theorem GZ(A:Ad): ∀xs Q,fG A xs Q→ ∀ls,(gY 0 xs).length=ls.length→wQ A (aeh (gY 0 xs) ls Q) (xR ["self","house","p","number","rule"] xs ls):=by
 intro xs Q hq ls hl
 unfold fG at hq
 split at hq<;>first|exact False.elim hq|skip
 rename_i t x p
 obtain ⟨h,q,rfl,rfl,ok,hp,hq⟩:=hq
 obtain ⟨l,rfl⟩:=az5 hl
 have hb:=Kr ok.1.1 q
 have gp:ixD (h.ps.map (eU A)) p=some (eU A q):=by
  rw [tD _ hp.1,List.getElem?_map,hp.2];rfl
 have gp2:=gp
 unfold eU at gp2
 unfold wQ aJ bA
 walk_at "dg0"
 walk_at "tq"
 refine aV (by walk_at "dq") ⟨rfl,rfl⟩ ?_
 walk_at "tq"
 refine ⟨h,rfl,ok.1.1,q,hp, ?_⟩
 walk_at "tq"
 refine ⟨by rw [List.length_map,szl];omega, ?_⟩
 refine fJ (bnD A) (fun z=>rW A z.2.2) ?_ (e_ (aM aG (aM aG du))) bU ?_
 ·intro z hz Q' hQ
  simp only [eZ,List.set]
  unfold bnD
  walk_at "tq"
  exact ⟨rfl,hQ⟩
 walk_at "tq"
 refine ⟨by decide, ?_⟩
 refine aV (by walk_at "dq") ⟨rfl,rfl⟩ ?_
 walk_at "tq"
 refine ⟨h,rfl,ok,q,hp, ?_⟩
 walk_at "tq"
 refine ⟨by simp, ?_⟩
 rw [gp]
 walk_at "tq"
 refine ⟨by simp,by decide, ?_⟩
 rw [gp]
 walk_at "tq"
 refine ⟨_,_,_,rfl, ?_⟩
 walk_at "tq"
 refine ⟨by simp, ?_⟩
 have eq:(lH h.rs q).map (fun z=>rW A z.2.2)=(fK h q).rs.map (rW A):=by
  unfold fK jE
  rw [List.map_map];rfl
 rw [eq]
 exact hq
theorem X8(A:Ad): ∀xs Q,jM A xs Q→ ∀ls,(gY 0 xs).length=ls.length→LQ A (aeh (gY 0 xs) ls Q) (xR ["self","marks"] xs ls):=by
 intro xs Q hq ls hl
 unfold jM at hq
 split at hq<;>first|exact False.elim hq|skip
 rename_i t z
 obtain ⟨r,k,m,rfl,hq⟩:=hq
 unfold LQ
 walk_at "dg0"
 walk_at "tq"
 exact hq
theorem aa4(A:Ad): ∀ds Q,pq A ds Q→Vj A { nx:=fun _=>Q .non,rt:=Q } (bM ["self","marks"] ds):=by
 intro ds Q h
 unfold pq at h
 split at h<;>first|exact False.elim h|skip
 rename_i x z
 obtain ⟨n,rfl,h⟩:=h
 unfold Vj jo
 walk_at "dl0"
 walk_at "tq"
 exact h
theorem X_(A:Ad): ∀ds Q,mK A ds Q→LR A { nx:=fun _=>Q .non,rt:=Q } (bM ["self","marks","many","rule"] ds):=by
 intro ds Q h
 unfold mK at h
 split at h<;>first|exact False.elim h|skip
 rename_i x z m
 obtain ⟨n,rfl,ok,hz,h⟩:=h
 unfold aeV at h
 unfold LR jo
 walk_at "dl0"
 walk_at "tq"
 refine cV (fun g=> ?_) (fun g=> ?_)
 ·rw [decide_eq_false (by omega),Bool.false_and] at h
  walk_at "tq"
  exact h
 ·rw [decide_eq_true (by omega),Bool.true_and] at h
  walk_at "tq"
  have e:(n.rs.any fun r=>uB r z)= !(n.rs.all fun r=> !uB r z):=by rw [List.not_all_eq_any_not];simp only [Bool.not_not]
  rw [e,Bool.not_not] at h
  refine bH (fun i ρ=> ∃a3:Sl,ρ=[.sh (jo A n), .sh (.str z), .sh (.int m),a3]∧((n.rs.take i).all fun r=> !uB r z)=true) ⟨_,rfl,rfl⟩ ?_ aG ?_
  ·rintro i x ρ hx ⟨a3,rfl,ha⟩
   obtain ⟨r,hr,rfl⟩:=gA hx
   have hd:=ok.2 _ (List.mem_of_getElem? hr)
   rw [dD hr,List.all_append,ha,Bool.true_and]
   unfold jo
   walk_at "tq"
   intro nx hnx
   refine an6 (n:=16) (z:=z) (by omega) hz (fun PL h=>by walk_at "tq";exact h) ?_
   walk_at "tq"
   refine jy (fun g2=> ?_) (fun g2=> ?_)
   ·walk_at "tq"
    have:(n.rs.all fun r=> !uB r z)=false:=List.all_eq_false.mpr ⟨r,List.mem_of_getElem? hr,by rw [g2];decide⟩
    rw [this] at h
    exact h
   ·walk_at "tq"
    exact hnx _ ⟨_,rfl,by rw [List.all_cons,List.all_nil,Bool.and_true,g2];rfl⟩
  ·rintro ρ ⟨a3,rfl,ha⟩
   rw [List.length_map,List.take_length] at ha
   walk_at "tq"
   rw [ha] at h
   exact h
theorem adk{α:Type}{k:KD}{x:α}: ∀{l:List (KD×α)},(l.map (·.1)).Nodup→((jJ k x l).map (·.1)).Nodup
 |[],_=>by simp [jJ]
 |(g,y)::r,h=>by
  unfold jJ
  split
  ·exact h
  ·rename_i ne
   rw [List.map_cons,List.nodup_cons] at h ⊢
   refine ⟨fun z=> ?_,adk h.2⟩
   obtain ⟨p,hp,e⟩:=List.mem_map.mp z
   rcases Bx hp with q|q
   ·exact ne (e.symm.trans q)
   ·exact h.1 (e ▸ List.mem_map.mpr ⟨p,q,rfl⟩)
theorem Y6{α:Type}{k:KD}{x:α}: ∀{l:List (KD×α)},(jJ k x l).length≤l.length+1
 |[]=>by simp [jJ]
 |(g,y)::r=>by
  unfold jJ
  split
  ·simp
  ·have:=Y6 (k:=k) (x:=x) (l:=r)
   simp only [List.length_cons];omega
theorem ahj(n:Hn)(t:Tx)(b:Int): ∀(s:Tx) (f:List (KD×D)),(f.map (·.1)).Nodup→((s.foldl (yj n t b) f).map (·.1)).Nodup∧(s.foldl (yj n t b) f).length≤f.length+s.length
 |[],f,h=>⟨h,by simp⟩
 |c::s,f,h=>by
  rw [List.foldl_cons]
  have h1:((yj n t b f c).map (·.1)).Nodup∧(yj n t b f c).length≤f.length+1:=by
   unfold yj
   split
   ·exact ⟨adk h,Y6⟩
   ·exact ⟨h,by omega⟩
  obtain ⟨q1,q2⟩:=ahj n t b s _ h1.1
  refine ⟨q1, ?_⟩
  have:=h1.2
  simp only [List.length_cons];omega
theorem Ph(A:Ad): ∀ds Q,jW A ds Q→Ao A { nx:=fun _=>Q .non,rt:=Q } (bM ["self","tail","before","sorts","found","mark","many"] ds):=by
 intro ds Q hq
 unfold jW at hq
 split at hq<;>first|exact False.elim hq|skip
 rename_i x t b s
 obtain ⟨n,rfl,ok,⟨ht,hs⟩,hq⟩:=hq
 unfold Ao jo
 walk_at "dl0"
 walk_at "tq"
 refine bH (fun i ρ=> ∃a5 a6:Sl,ρ=[.sh (jo A n), .sh (.str t), .sh (.int b), .sh (.str s), .gn none (.dct ((oK n t b (s.take i)).map fun q=>(q.1, .sh q.2))),a5,a6]) ⟨_,_,rfl⟩ ?_ aG ?_
 ·rintro i x ρ hx ⟨a5,a6,rfl⟩
  obtain ⟨c,hc,rfl⟩:=yX hx
  obtain ⟨l1,l2⟩:=ahj n t b (s.take i) [] List.nodup_nil
  have l3:(s.take i).length≤s.length:=by rw [List.length_take];omega
  have e:oK n t b (s.take (i+1))=yj n t b (oK n t b (s.take i)) c:=by
   unfold oK
   rw [dD hc,List.foldl_append];rfl
  rw [e]
  change ((oK n t b (s.take i)).map (·.1)).Nodup at l1
  change (oK n t b (s.take i)).length≤_ at l2
  generalize oK n t b (s.take i)=L at l1 l2
  unfold jo
  walk_at "tq"
  intro nx hnx
  have ed:(b+if (!decide ([c]=([45]:Tx)))=true then 1 else 0)=b+U8 c:=by
   unfold U8
   by_cases g:c=45
   ·subst g;simp
   ·simp [g]
  rw [ed]
  refine aV aa3.1 ⟨rfl,rfl⟩ ?_
  walk_at "tq"
  refine ⟨by rw [szl];simp;omega,n,rfl,ok,by rw [List.length_append];simp;omega, ?_⟩
  walk_at "tq"
  have er:yj n t b L c=if aeV n (t++[c]) (b+U8 c)=true then jJ (.inr [c]) (ag8 n t b c) L else L:=rfl
  rw [er] at hnx
  refine jy (fun g=> ?_) (fun g=> ?_)
  ·rw [if_pos g] at hnx
   walk_at "tq"
   refine aV aa3.2.1 ⟨rfl,rfl⟩ ?_
   walk_at "tq"
   refine ⟨by rw [szl];simp;omega,n,rfl, ?_⟩
   walk_at "tq"
   refine ⟨⟨by rw [List.length_map,szl];simp at l2;omega,by rw [List.map_map];exact l1⟩, ?_⟩
   rw [acF]
   exact hnx _ ⟨_,_,rfl⟩
  ·rw [if_neg (by rw [g];exact Bool.false_ne_true)] at hnx
   walk_at "tq"
   exact hnx _ ⟨_,_,rfl⟩
 ·rintro ρ ⟨a5,a6,rfl⟩
  rw [yW,List.take_length]
  walk_at "tq"
  exact hq
theorem aa5(A:Ad): ∀ds Q,fU A ds Q→Vn A { nx:=fun _=>Q .non,rt:=Q } (bM ["house","p"] ds):=by
 intro ds Q hq
 unfold fU at hq
 split at hq<;>first|exact False.elim hq|skip
 rename_i x
 obtain ⟨h,rfl,⟨ok,hl⟩,hq⟩:=hq
 unfold Vn aJ bA
 walk_at "dl0"
 walk_at "tq"
 rw [List.length_map]
 refine ⟨by simp only [fM];omega,by rw [dM,szl];omega, ?_⟩
 have e:oX 0 ((h.ps.length:Nat):Int).toNat=(List.range h.ps.length).map fun (i:Nat)=>D.int (0+(i:Int)):=rfl
 rw [e]
 have e2:(cQ h).map (jo A)=(List.range h.ps.length).map fun i=>match h.ps[i]? with|some q=>jo A (fK h q)|none=> .non:=by
  unfold cQ
  refine List.ext_getElem? fun i=> ?_
  rw [List.map_map,List.getElem?_map,List.getElem?_map]
  by_cases g:i<h.ps.length
  ·rw [List.getElem?_range g,List.getElem?_eq_getElem g];simp only [Option.map_some,List.getElem?_eq_getElem g];rfl
  ·rw [List.getElem?_eq_none (by omega),List.getElem?_eq_none (by simp;omega)];rfl
 refine fJ (fun (i:Nat)=>D.int (0+(i:Int))) (fun i=>match h.ps[i]? with|some q=>jo A (fK h q)|none=> .non) ?_ aG bU ?_
 ·intro p hp Q' hQ
  have hp:=List.mem_range.mp hp
  rw [List.getElem?_eq_getElem hp] at hQ
  have g1:h.ps[((p:Nat):Int).toNat]? =some h.ps[p]:=by rw [Int.toNat_natCast];exact List.getElem?_eq_getElem hp
  simp only [eZ,List.set]
  rw [bV]
  walk_at "tq"
  simp only [List.map_cons,List.map_nil]
  refine ⟨h,h.ps[p],rfl,rfl,ok,⟨by omega,g1⟩, ?_⟩
  unfold anU anT
  walk_at "tq"
  exact hQ
 rw [←e2]
 walk_at "tq"
 exact hq
theorem Pj(A:Ad): ∀ds Q,dY A ds Q→Ae A { nx:=fun _=>Q .non,rt:=Q } (bM ["hands","hand"] ds):=by
 intro ds Q hq
 unfold dY at hq
 split at hq<;>first|exact False.elim hq|skip
 rename_i x
 obtain ⟨hs,rfl,hl,hq⟩:=hq
 unfold Ae
 walk_at "dl0"
 walk_at "tq"
 refine ⟨by rw [List.length_map,szl];omega, ?_⟩
 refine fJ (jo A) (fun n=> .str n.beg) ?_ aG bU ?_
 ·intro n _ Q' hQ
  simp only [eZ,List.set]
  unfold jo
  walk_at "tq"
  exact hQ
 walk_at "tq"
 refine ⟨by rw [List.length_map,szl];omega, ?_⟩
 refine fJ (jo A) (fun n=> .int 0) ?_ aG bU ?_
 ·intro n _ Q' hQ
  simp only [eZ,List.set]
  walk_at "tq"
  exact hQ
 walk_at "tq"
 unfold lJ b_ at hq
 simp only [List.map_map] at hq
 exact hq
end K67
set_option maxHeartbeats 0
namespace K67
open PySem L2 DL
theorem adl{l:List Tx}{p:Nat}(h:p<l.length):l[p]? =some (l.getD p []):=by simp [List.getD,h]
theorem aof{l:List Int}{p:Nat}(h:p<l.length):l[p]? =some (l.getD p 0):=by simp [List.getD,h]
theorem adm{xs:List D}{i:Nat}{x:D}(h:((List.range xs.length).zip xs |>.map fun p=>D.tup [.int (p.1:Nat),p.2])[i]? =some x): ∃y,xs[i]? =some y∧x= .tup [.int (i:Nat),y]:=by
 rw [List.getElem?_map] at h
 cases e:((List.range xs.length).zip xs)[i]? with
 |none=>rw [e] at h;cases h
 |some z=>
  rw [e,Option.map_some,Option.some.injEq] at h
  obtain ⟨z1,z2⟩:=z
  rw [List.getElem?_zip_eq_some] at e
  obtain ⟨e1,e2⟩:=e
  have hl:i<(List.range xs.length).length:=(List.getElem?_eq_some_iff.mp e1).1
  rw [List.length_range] at hl
  rw [List.getElem?_range hl,Option.some.injEq] at e1
  exact ⟨z2,e2,by rw [←h, ←e1]⟩
theorem adn{xs:List D}:((List.range xs.length).zip xs |>.map fun p=>D.tup [.int (p.1:Nat),p.2]).length=xs.length:=by simp
theorem qd(f:Nat→Int)(n:Nat):((List.range (n+1)).map f).sum=((List.range n).map f).sum+f n:=by
 rw [List.range_succ,List.map_append,List.sum_append];simp
theorem aog{l:List Tx}: ∀n,n≤l.length→ ∀c:Tx,c∈nQ (l.take n)↔(c.length=n∧ ∀p,p<n→c.getD p 0∈l.getD p []):=by
 intro n
 induction n with
 |zero=>
  intro _ c
  constructor
  ·intro hc
   have:c=[]:=by simpa [nQ] using hc
   subst this
   exact ⟨rfl,fun p hp=>absurd hp (by omega)⟩
  ·rintro ⟨h,_⟩
   have:c=[]:=List.eq_nil_of_length_eq_zero h
   subst this
   simp [nQ]
 |succ n ih=>
  intro hn c
  have hn':n<l.length:=by omega
  have el:l.getD n []=l[n]:=by simp only [List.getD,List.getElem?_eq_getElem hn',Option.getD_some]
  rw [dD (List.getElem?_eq_getElem hn'),vq]
  unfold qM
  constructor
  ·intro hc
   obtain ⟨c',h1,h2⟩:=List.mem_flatMap.mp hc
   obtain ⟨m,hm,rfl⟩:=List.mem_map.mp h2
   obtain ⟨g1,g2⟩:=(ih (by omega) c').mp h1
   refine ⟨by simp [g1],fun p hp=> ?_⟩
   by_cases e:p=n
   ·subst e
    have:(c'++[m]).getD p 0=m:=by simp [List.getD, ←g1]
    rw [this,el];exact hm
   ·have hp':p<c'.length:=by omega
    have:(c'++[m]).getD p 0=c'.getD p 0:=by simp [List.getD,List.getElem?_append_left hp']
    rw [this];exact g2 p (by omega)
  ·rintro ⟨g1,g2⟩
   refine List.mem_flatMap.mpr ⟨c.take n,(ih (by omega) _).mpr ⟨by rw [List.length_take];omega,fun p hp=> ?_⟩,List.mem_map.mpr ⟨c.getD n 0,el ▸ g2 n (by omega), ?_⟩⟩
   ·have:(c.take n).getD p 0=c.getD p 0:=by simp [List.getD,List.getElem?_take_of_lt hp]
    rw [this];exact g2 p (by omega)
   ·have:=dD (wg (show n<c.length by omega))
    rw [←this,List.take_of_length_le (by omega)]
theorem Y7{A:Ad}{k:fD}{m dd:Nat}{p d:Int}{c:Nat}{dr:DA}{ρ:Rh}{P:D→Prop}(ok:okC m dd k)(p0:0≤p)(p1:p<m)(d0:0≤d)(d1:d<dd)(hdr: ∀Pl:List D→Prop,Pl [.int p, .int d, .str [c]]→dr ρ Pl)(h:P (.int (wH k p d c))):Ay (eV A k) (o_ A) "of_mark" dr ρ P:=by
 cases k with
 |base=>
  refine aV rfl (.inl ⟨rfl,rfl⟩) (hdr _ ?_)
  walk_at "dq"
  exact h
 |even cs wt ws=>
  refine aV (by walk_at "dq") (.inr (.inl ⟨rfl,rfl⟩)) (hdr _ ?_)
  walk_at "dq"
  exact ⟨cs,wt,ws,rfl,h⟩
 |change rows=>
  obtain ⟨hl,hr⟩:=ok
  refine aV (by walk_at "dq") (.inr (.inr (.inl ⟨rfl,rfl⟩))) (hdr _ ?_)
  walk_at "dq"
  exact ⟨rows,rfl,⟨⟨p0,d0⟩,by omega,fun r hr'=>by rw [hr r hr'];exact d1⟩,h⟩
 |level cs l=>
  refine aV (by walk_at "dq") (.inr (.inr (.inr ⟨rfl,rfl⟩))) (hdr _ ?_)
  walk_at "dq"
  exact h
theorem Vt{A:Ad}{k:fD}{m dd:Nat}{p n:Int}{dr:DA}{ρ:Rh}{P:D→Prop}(ok:okC m dd k)(p0:0≤p)(p1:p<m)(n0:0≤n)(n1:n≤1000)(hdr: ∀Pl:List D→Prop,Pl [.int p, .int n]→dr ρ Pl)(h:P (.int (qD k p n))):Ay (eV A k) (mF A) "of_count" dr ρ P:=by
 cases k with
 |base=>
  refine aV rfl (.inl ⟨rfl,rfl⟩) (hdr _ ?_)
  walk_at "dq"
  exact h
 |even cs wt ws=>
  obtain ⟨hl,hb,w0,w1⟩:=ok
  refine aV (by walk_at "dq") (.inr (.inl ⟨rfl,rfl⟩)) (hdr _ ?_)
  walk_at "dq"
  exact ⟨cs,wt,ws,rfl,⟨⟨p0,by omega⟩,hb,⟨w0,w1⟩,n0,n1⟩,h⟩
 |change rows=>
  refine aV (by walk_at "dq") (.inr (.inr (.inl ⟨rfl,rfl⟩))) (hdr _ ?_)
  walk_at "dq"
  exact h
 |level cs l=>
  have hl:cs.length=m:=ok
  refine aV (by walk_at "dq") (.inr (.inr (.inr ⟨rfl,rfl⟩))) (hdr _ ?_)
  walk_at "dq"
  exact ⟨cs,l,rfl,⟨p0,by omega⟩,h⟩
theorem aoh(A:Ad): ∀ds Q,ym A ds Q→an1 A { nx:=fun _=>Q .non,rt:=Q } (bM ["looked","costs","day","entry","column","tails","numbers","whole","p","lets_by","behind"] ds):=by
 intro ds Q hq
 unfold ym at hq
 split at hq<;>first|exact False.elim hq|skip
 rename_i x c d y col
 obtain ⟨ls,hs,k,e,dd,rfl,rfl,rfl,⟨hl,lsl,cl,okc,d0,d1⟩,hp,hq⟩:=hq
 unfold an1 b_
 walk_at "dl0"
 walk_at "tq"
 refine bH (fun i ρ=> ∃(a8 a9 a10:Sl),ρ=[Sl.sh (D.lst (List.map D.dct ls)),Sl.sh (eV A k),Sl.sh (D.int d),
   Sl.sh (D.tup [D.tup (List.map D.str e.fst.fst),D.tup (List.map D.int e.fst.snd),D.int e.snd]),
   Sl.sh (D.str col),Sl.ow (D.lst (((List.range i).map (nxT hs e col)).map D.str)),Sl.ow (D.lst (((List.range i).map (nxN e col)).map D.int)),Sl.sh (D.int (e.2+XD k d col i)),a8,a9,a10]∧(List.range i).all (okS hs e col)=true) ⟨.no, .no, .no,by unfold XD;simp,rfl⟩ ?_ (e_ (aM aG (aM aG du))) ?_
 ·rintro i x ρ hx ⟨a8,a9,a10,rfl,ha⟩
  obtain ⟨y,hy,rfl⟩:=adm hx
  obtain ⟨l,hl1,rfl⟩:=gA hy
  have hi:i<ls.length:=(List.getElem?_eq_some_iff.mp hl1).1
  have lp:=hp i (by omega)
  unfold acY at lp
  have el:ls.getD i []=l:=by simp [List.getD,hl1]
  rw [el] at lp
  have gc:=wg (show i<col.length by omega)
  walk_at "tq"
  refine ⟨rfl, ?_⟩
  intro nx hnx
  rw [dO,gc]
  walk_at "tq"
  rw [lp]
  by_cases g:okS hs e col i=true
  ·rw [if_pos g,Option.getD_some]
   rw [show (if false=true then !DL.sU (D.tup [D.str (nxT hs e col i),D.int (nxN e col i)]) else DL.sU (D.tup [D.str (nxT hs e col i),D.int (nxN e col i)]))=false from rfl]
   walk_at "tq"
   refine ⟨by rw [List.length_map,List.length_map,List.length_range,szl];omega,by rw [List.length_map,List.length_map,List.length_range,szl];omega, ?_⟩
   refine Y7 (p:=(i:Int)) (c:=col.getD i 0) okc (by omega) (by omega) d0 d1 (fun Pl h=>by walk_at "tq";rw [dO,gc];walk_at "tq";exact h) ?_
   walk_at "tq"
   have E1:((List.range (i+1)).map (nxT hs e col)).map D.str=((List.range i).map (nxT hs e col)).map D.str++[.str (nxT hs e col i)]:=by rw [List.range_succ,List.map_append,List.map_append];rfl
   have E2:((List.range (i+1)).map (nxN e col)).map D.int=((List.range i).map (nxN e col)).map D.int++[.int (nxN e col i)]:=by rw [List.range_succ,List.map_append,List.map_append];rfl
   have E3:e.2+XD k d col (i+1)=e.2+XD k d col i+wH k i d (col.getD i 0):=by unfold XD;rw [qd,Int.add_assoc]
   rw [E1,E2,E3] at hnx
   exact hnx _ ⟨_,_,_,rfl,by rw [List.range_succ,List.all_append,ha,List.all_cons,g];rfl⟩
  ·rw [if_neg g,Option.getD_none]
   rw [show DL.sU D.non=true from rfl]
   walk_at "tq"
   have:(List.range hs.length).all (okS hs e col)=false:=List.all_eq_false.mpr ⟨i,List.mem_range.mpr (by omega),g⟩
   unfold pX at hq
   rw [this,if_neg Bool.false_ne_true] at hq
   exact hq
 ·rintro ρ ⟨a8,a9,a10,rfl,ha⟩
  rw [adn,List.length_map,lsl] at ha ⊢
  unfold pX at hq
  rw [if_pos ha] at hq
  walk_at "tq"
  exact hq
theorem aiv(A:Ad): ∀ds Q,lX A ds Q→ahd A { nx:=fun _=>Q .non,rt:=Q } (bM ["costs","entry","whole","p","many"] ds):=by
 intro ds Q hq
 unfold lX at hq
 split at hq<;>first|exact False.elim hq|skip
 rename_i c y
 obtain ⟨k,e,dd,rfl,rfl,⟨oke,hl,okc⟩,hq⟩:=hq
 unfold ahd b_
 walk_at "dl0"
 walk_at "tq"
 refine bH (fun i ρ=> ∃(a3 a4:Sl),ρ=[Sl.sh (eV A k),Sl.sh (D.tup [D.tup (List.map D.str e.fst.fst),D.tup (List.map D.int e.fst.snd),D.int e.snd]),
   Sl.sh (D.int (e.2+((List.range i).map fun (p:Nat)=>qD k p (e.1.2.getD p 0)).sum)),a3,a4]) ⟨.no, .no,by simp⟩ ?_ (e_ (aM aG (aM aG du))) ?_
 ·rintro i x ρ hx ⟨a3,a4,rfl⟩
  obtain ⟨y,hy,rfl⟩:=adm hx
  obtain ⟨n,hn,rfl⟩:=gA hy
  have hi:i<e.1.2.length:=(List.getElem?_eq_some_iff.mp hn).1
  have en:e.1.2.getD i 0=n:=by simp [List.getD,hn]
  have bn:=oke.2.2.2 n (List.mem_of_getElem? hn)
  rw [qd,en]
  walk_at "tq"
  refine ⟨rfl, ?_⟩
  intro nx hnx
  refine Vt (p:=(i:Int)) (n:=n) okc (by omega) (by omega) bn.1 bn.2 (fun Pl h=>by walk_at "tq";exact h) ?_
  walk_at "tq"
  rw [Int.add_assoc]
  exact hnx _ ⟨_,_,rfl⟩
 ·rintro ρ ⟨a3,a4,rfl⟩
  rw [adn,List.length_map]
  walk_at "tq"
  exact hq
theorem Y8{α:Type}{k g:KD}{x:α}: ∀{l:List (KD×α)},eQ g (jJ k x l)=if k=g then some x else eQ g l
 |[]=>rfl
 |(a,y)::r=>by
  unfold jJ
  split
  ·rename_i e
   subst e
   unfold eQ
   split<;>rfl
  ·rename_i ne
   unfold eQ
   split
   ·rename_i e
    subst e
    rw [if_neg (fun z=>ne z.symm)]
   ·exact Y8
theorem ado(n:Hn)(t:Tx)(b:Int)(c:Nat): ∀(s:Tx) (f:List (KD×D)),eQ (.inr [c]) (s.foldl (yj n t b) f)=if c∈s∧Lq n t b c=true then some (ag8 n t b c) else eQ (.inr [c]) f
 |[],f=>by simp
 |a::s,f=>by
  rw [List.foldl_cons,ado n t b c s]
  have e:eQ (.inr [c]) (yj n t b f a)=if a=c∧Lq n t b c=true then some (ag8 n t b c) else eQ (.inr [c]) f:=by
   unfold yj
   split
   ·rename_i m
    rw [Y8]
    by_cases g:a=c
    ·subst g;rw [if_pos rfl,if_pos ⟨rfl,m⟩]
    ·rw [if_neg (by simpa using g),if_neg (fun z=>g z.1)]
   ·rename_i m
    rw [if_neg]
    rintro ⟨rfl,z⟩
    exact m z
  rw [e]
  by_cases m:Lq n t b c=true
  ·by_cases g1:c∈s
   ·simp [g1,m]
   ·by_cases g2:a=c
    ·subst g2;simp [m]
    ·simp [g1,g2,m,Ne.symm g2]
  ·simp [m]
theorem G3{h:Hs}{d:Int}{c:Tx}(hc:c∈gQ h d):c.length=h.ps.length∧ ∀p,p<h.ps.length→c.getD p 0∈(bf h d).getD p []:=by
 have h1:=(mG h d).mem_iff.mp hc
 unfold yh at h1
 have h2:=(List.mem_filter.mp h1).1
 have hl:(bf h d).length=h.ps.length:=by simp [bf]
 have h3:=(aog (l:=bf h d) (bf h d).length (Nat.le_refl _) c).mp (by rw [List.take_length];exact h2)
 rw [hl] at h3
 exact h3
theorem Vu{h:Hs}{d:Int}:(gQ h d).length≤jd (bf h d):=by
 rw [(mG h d).length_eq]
 unfold yh
 refine Nat.le_trans (List.length_filter_le _ _) ?_
 have:=Y4 (bf h d) (bf h d).length
 rw [List.take_length] at this
 omega
theorem eG{h:Hs}:(cQ h).length=h.ps.length:=by simp [cQ]
theorem G4{h:Hs}{p:Nat}(hp:p<h.ps.length):(cQ h).getD p hn0=fK h h.ps[p]:=by
 unfold cQ
 simp [List.getD,hp]
theorem atg{h:Hs}(ok:okH h)(q:i_):anV (fK h q):=by
 refine ⟨aoe ok q,fun r hr=> ?_⟩
 obtain ⟨z,hz,rfl⟩:=List.mem_map.mp hr
 exact (ok.1.2 _ (GX hz)).1
end K67
set_option maxHeartbeats 0
namespace K67
open PySem L2 DL
theorem aoi{h:Hs}(ok:okB h){d:Int}{e:En}{col:Tx}(hc:col∈gQ h d){p:Nat}(hp:p<h.ps.length):acY (cQ h) e col ((List.range h.ps.length).map fun p=>oK (fK h (h.ps.getD p ⟨[],[],0,0,[]⟩)) (e.1.1.getD p []) (e.1.2.getD p 0) ((bf h d).getD p [])) p:=by
 obtain ⟨c1,c2⟩:=G3 hc
 have g:((List.range h.ps.length).map fun p=>oK (fK h (h.ps.getD p ⟨[],[],0,0,[]⟩)) (e.1.1.getD p []) (e.1.2.getD p 0) ((bf h d).getD p [])).getD p []=oK (fK h h.ps[p]) (e.1.1.getD p []) (e.1.2.getD p 0) ((bf h d).getD p []):=by
  simp [List.getD,hp]
 unfold acY okS nxT nxN
 rw [g,G4 hp]
 unfold oK
 rw [ado]
 have m:=c2 p hp
 by_cases g2:Lq (fK h h.ps[p]) (e.1.1.getD p []) (e.1.2.getD p 0) (col.getD p 0)=true
 ·rw [if_pos ⟨m,g2⟩,if_pos g2];rfl
 ·rw [if_neg (fun z=>g2 z.2),if_neg g2];rfl
def inS(h:Hs)(k:fD)(d:Int)(e:En)(l:List Tx):List St:=l.filterMap fun col=>(pX (cQ h) k d e col).map fun e2=>(e,col,e2)
theorem ahk(h:Hs)(k:fD)(d:Int)(e:En)(l:List Tx):(inS h k d e l).length≤l.length:=List.length_filterMap_le _ _
theorem Vv(h:Hs)(k:fD)(d:Int)(page:List En):cO h k d page=page.flatMap fun e=>inS h k d e (gQ h d):=rfl
theorem zb(h:Hs)(k:fD)(d:Int): ∀page:List En,(cO h k d page).length≤page.length*(gQ h d).length
 |[]=>by simp [cO]
 |e::l=>by
  have a:=zb h k d l
  have b:=ahk h k d e (gQ h d)
  rw [Vv] at a ⊢
  rw [List.flatMap_cons,List.length_append,List.length_cons,Nat.succ_mul]
  omega
theorem aiw(A:Ad): ∀ds Q Xc,pH A ds Q Xc→ahe A Xc { nx:=fun _=>Q .non,rt:=Q } (lU ["house","costs","day","page","found","ways","hands","sorts","p","entry","looked","column","made"] [false,false,false,false] ds):=by
 intro ds Q Xc hq
 unfold pH at hq
 split at hq<;>first|exact False.elim hq|skip
 rename_i x c d y
 obtain ⟨h,k,page,rfl,rfl,rfl,⟨ok,okk,⟨pl,pe⟩,d0,d1⟩,h1,h2⟩:=hq
 have hpl:=ok.pl
 unfold ahe aJ bA
 walk_at "dl0"
 walk_at "tq"
 refine ⟨h,rfl,ok,h1,fun hw=> ?_⟩
 have h2:=h2 hw
 have cl:=Nat.le_trans (Vu (h:=h) (d:=d)) hw
 walk_at "tq"
 refine ⟨h,rfl,⟨ok.rp,by omega⟩, ?_⟩
 walk_at "tq"
 rw [List.length_map,eG]
 refine ⟨by simp only [fM];omega,by rw [dM,szl];omega, ?_⟩
 have er:oX 0 ((h.ps.length:Nat):Int).toNat=(List.range h.ps.length).map fun (i:Nat)=>D.int (0+(i:Int)):=rfl
 rw [er]
 refine fJ (fun (i:Nat)=>D.int (0+(i:Int))) (fun p=> .str (45::F_ h p d)) ?_ aG bU ?_
 ·intro p hp Q' hQ
  have hp:=List.mem_range.mp hp
  simp only [eZ,List.set]
  rw [bV]
  walk_at "tq"
  refine aV (by walk_at "dq") ⟨rfl,rfl⟩ ?_
  walk_at "tq"
  have em:F_ h p d=Ov h.ks h.l h.ps[p] h.lv d:=by unfold F_;rw [List.getElem?_eq_getElem hp]
  refine ⟨_,_,_,_,_,_,_,_,rfl,by have:=ok.ks.1;omega,h.ps[p],⟨by omega,by rw [Int.toNat_natCast];exact List.getElem?_eq_getElem hp⟩, ?_⟩
  rw [←em]
  walk_at "tq"
  have:=aa2 ok p d
  exact ⟨by walk_at "sz",hQ⟩
 rw [show (List.range h.ps.length).map (fun p=>D.str (45::F_ h p d))=(bf h d).map D.str by unfold bf;rw [List.map_map];rfl]
 have hsl:(bf h d).length=h.ps.length:=by simp [bf]
 have hsm:=Y5 ok d
 walk_at "tq"
 refine bH (fun i ρ=> ∃(a8 a9 a10 a11 a12:Sl),ρ=[.sh (aJ A h), .sh (eV A k), .sh (.int d), .sh (.lst (page.map b_)), .ow (.lst ((cO h k d (page.take i)).map stD)), .sh (.lst ((gQ h d).map D.str)), .sh (.lst ((cQ h).map (jo A))), .sh (.lst ((bf h d).map D.str)),a8,a9,a10,a11,a12]) ⟨_,_,_,_,_,rfl⟩ ?_ aG ?_
 ·rintro i x ρ hx ⟨a8,a9,a10,a11,a12,rfl⟩
  obtain ⟨e,he,rfl⟩:=gA hx
  have oke:=pe e (List.mem_of_getElem? he)
  have hi:i<page.length:=(List.getElem?_eq_some_iff.mp he).1
  have sl:=zb h k d (page.take i)
  have sl2:(page.take i).length*(gQ h d).length≤300*256:=Nat.mul_le_mul (by rw [List.length_take];omega) cl
  have e1:cO h k d (page.take (i+1))=cO h k d (page.take i)++inS h k d e (gQ h d):=by
   rw [Vv,dD he,List.flatMap_append, ←Vv];simp
  rw [e1]
  generalize cO h k d (page.take i)=G at sl
  unfold aJ bA b_
  walk_at "tq"
  intro nx hnx
  rw [List.length_map,eG]
  refine ⟨by simp only [fM];omega,by rw [dM,szl];omega, ?_⟩
  rw [er]
  refine fJ (fun (i:Nat)=>D.int (0+(i:Int))) (fun p=> .dct (oK (fK h (h.ps.getD p ⟨[],[],0,0,[]⟩)) (e.1.1.getD p []) (e.1.2.getD p 0) ((bf h d).getD p []))) ?_ aG bU ?_
  ·intro p hp Q' hQ
   have hp:=List.mem_range.mp hp
   have gh:ixD ((cQ h).map (jo A)) (p:Int)=some (jo A (fK h h.ps[p])):=by
    rw [dO,List.getElem?_map,List.getElem?_eq_getElem (by rw [eG];exact hp)]
    simp [cQ]
   have gt:ixD (e.1.1.map D.str) (p:Int)=some (.str (e.1.1.getD p [])):=by
    rw [dO,List.getElem?_map,adl (by rw [oke.1];exact hp)];rfl
   have gn:ixD (e.1.2.map D.int) (p:Int)=some (.int (e.1.2.getD p 0)):=by
    rw [dO,List.getElem?_map,aof (by rw [oke.2.1];exact hp)];rfl
   have gs:ixD ((bf h d).map D.str) (p:Int)=some (.str ((bf h d).getD p [])):=by
    rw [dO,List.getElem?_map,adl (by rw [hsl];exact hp)];rfl
   have b1:(e.1.1.getD p []).length≤100:=oke.2.2.1 _ (by simp [List.getD,oke.1,hp])
   have b2:((bf h d).getD p []).length≤5:=(hsm _ (by simp [List.getD,hsl,hp])).2
   have gd:h.ps.getD p ⟨[],[],0,0,[]⟩=h.ps[p]:=by simp [List.getD,hp]
   rw [gd] at hQ
   simp only [eZ,List.set]
   rw [bV]
   walk_at "tq"
   rw [gh]
   unfold jo
   walk_at "tq"
   refine aV aa3.2.2 ⟨rfl,rfl⟩ ?_
   walk_at "tq"
   rw [gt]
   walk_at "tq"
   rw [gn]
   walk_at "tq"
   rw [gs]
   walk_at "tq"
   exact ⟨fK h h.ps[p],rfl,atg ok.rp _,⟨by omega,by omega⟩,hQ⟩
  have LP:=fun (col:Tx) (hc:col∈gQ h d) (p:Nat) (hp:p<h.ps.length)=>aoi ok (e:=e) hc hp
  have ll:((List.range h.ps.length).map fun p=>oK (fK h (h.ps.getD p ⟨[],[],0,0,[]⟩)) (e.1.1.getD p []) (e.1.2.getD p 0) ((bf h d).getD p [])).length=h.ps.length:=by simp
  rw [show (List.range h.ps.length).map (fun p=>D.dct (oK (fK h (h.ps.getD p ⟨[],[],0,0,[]⟩)) (e.1.1.getD p []) (e.1.2.getD p 0) ((bf h d).getD p [])))=((List.range h.ps.length).map fun p=>oK (fK h (h.ps.getD p ⟨[],[],0,0,[]⟩)) (e.1.1.getD p []) (e.1.2.getD p 0) ((bf h d).getD p [])).map D.dct by rw [List.map_map];rfl]
  generalize (List.range h.ps.length).map (fun p=>oK (fK h (h.ps.getD p ⟨[],[],0,0,[]⟩)) (e.1.1.getD p []) (e.1.2.getD p 0) ((bf h d).getD p []))=LS at LP ll
  walk_at "tq"
  refine bH (fun j ρ=> ∃(a8 a11 a12:Sl),ρ=[.sh (aJ A h), .sh (eV A k), .sh (.int d), .sh (.lst (page.map b_)), .ow (.lst ((G++inS h k d e ((gQ h d).take j)).map stD)), .sh (.lst ((gQ h d).map D.str)), .sh (.lst ((cQ h).map (jo A))), .sh (.lst ((bf h d).map D.str)),a8, .sh (b_ e), .sh (.lst (LS.map D.dct)),a11,a12]) ⟨a8,a11,a12,by simp [inS,b_];rfl⟩ ?_ aG ?_
  ·rintro j x ρ hx ⟨a8,a11,a12,rfl⟩
   obtain ⟨col,hc,rfl⟩:=gA hx
   have hcm:=List.mem_of_getElem? hc
   have cm:=G3 hcm
   have il:=ahk h k d e ((gQ h d).take j)
   have il2:((gQ h d).take j).length≤256:=by rw [List.length_take];omega
   have e2:inS h k d e ((gQ h d).take (j+1))=inS h k d e ((gQ h d).take j)++(match pX (cQ h) k d e col with|some e2=>[(e,col,e2)]|none=>[]):=by
    rw [dD hc]
    unfold inS
    rw [List.filterMap_append]
    congr 1
    cases g:pX (cQ h) k d e col<;>simp [g]
   rw [e2]
   generalize inS h k d e ((gQ h d).take j)=I at il
   walk_at "tq"
   intro nx2 hnx2
   refine ⟨LS,cQ h,k,e,h.d.toNat,rfl,rfl,rfl,⟨by rw [eG];omega,by rw [eG];exact ll,by rw [eG];exact cm.1,by rw [eG];exact okk,d0,by omega⟩,fun p hp=>LP col hcm p (by rw [eG] at hp;exact hp), ?_⟩
   cases g:pX (cQ h) k d e col with
   |none=>
    rw [g,List.append_nil] at hnx2
    unfold ata
    walk_at "tq"
    exact hnx2 _ ⟨_,_,_,rfl⟩
   |some e2=>
    rw [g] at hnx2
    simp only [List.map_append,List.map_cons,List.map_nil, ←List.append_assoc] at hnx2 ⊢
    unfold ata
    walk_at "tq"
    rw [show DL.sU (b_ e2)=false from rfl]
    walk_at "tq"
    refine ⟨?_,hnx2 _ ⟨_,_,_,rfl⟩⟩
    rw [List.length_append,List.length_map,List.length_map,szl];omega
  ·rintro ρ ⟨a8,a11,a12,rfl⟩
   rw [List.length_map,List.take_length]
   walk_at "tq"
   exact hnx _ ⟨_,_,_,_,_,rfl⟩
 ·rintro ρ ⟨a8,a9,a10,a11,a12,rfl⟩
  rw [List.length_map,List.take_length]
  walk_at "tq"
  exact h2
end K67
set_option maxHeartbeats 0
namespace K67
open PySem L2 DL
theorem vA{α β:Type}(f:α→β)(k:KB): ∀l:List (KB×α),bO k (l.map fun p=>(p.1,f p.2))=(bO k l).map f
 |[]=>rfl
 |(g,x)::r=>by
  rw [List.map_cons]
  unfold bO
  split
  ·rfl
  ·exact vA f k r
theorem Mg{α β:Type}(f:α→β)(k:KB)(x:α): ∀l:List (KB×α),d8.kbPutR k (f x) (l.map fun p=>(p.1,f p.2))=(d8.kbPutR k x l).map fun p=>(p.1,f p.2)
 |[]=>rfl
 |(g,y)::r=>by
  rw [List.map_cons]
  unfold d8.kbPutR
  rw [Mg f k x r]
  split<;>rfl
theorem wj{α β:Type}(f:α→β)(k:KB)(x:α): ∀l:List (KB×α),d8 k (f x) (l.map fun p=>(p.1,f p.2))=(d8 k x l).map fun p=>(p.1,f p.2)
 |[]=>rfl
 |(g,y)::r=>by
  rw [List.map_cons]
  unfold d8
  split
  ·rw [Mg];rfl
  ·rw [wj f k x r];rfl
theorem vB{α:Type}{k:KB}{x:α}{l:List (KB×α)}:(d8 k x l).length≤l.length+1:=by
 rw [xW]
 split
 ·rw [List.length_map];omega
 ·simp
def bD(l:List (KB×Int)):List (KB×D):=l.map fun p=>(p.1, .int p.2)
def wD1(z:KB×Tx):D:= .tup [lM z.1, .str z.2]
def wD(l:List (KB×(KB×Tx))):List (KB×D):=l.map fun p=>(p.1,wD1 p.2)
theorem ath(e:En):kbD (.tup [.tup (e.1.1.map D.str), .tup (e.1.2.map D.int)])=some e.1:=by
 unfold kbD asI
 simp only [yR,uG]
theorem az6(l:List St): ∀b:Bw,(l.foldl bw1 b).1.length≤b.1.length+l.length∧(l.foldl bw1 b).2.length≤b.2.length+l.length:=by
 induction l with
 |nil=>intro b;simp
 |cons s l ih=>
  intro b
  rw [List.foldl_cons]
  have h1:(bw1 b s).1.length≤b.1.length+1∧(bw1 b s).2.length≤b.2.length+1:=by
   unfold bw1
   split
   ·exact ⟨vB,vB⟩
   ·split
    ·exact ⟨vB,vB⟩
    ·exact ⟨by omega,by omega⟩
  have:=ih (bw1 b s)
  simp only [List.length_cons]
  omega
theorem Pk(A:Ad): ∀ds Q Xc,fW A ds Q Xc→Aq A Xc { nx:=fun _=>Q .non,rt:=Q } (lU ["house","costs","day","page","best","ways","entry","column","made","key","cost"] [false,false,false,false] ds):=by
 intro ds Q Xc hq
 unfold fW at hq
 split at hq<;>first|exact False.elim hq|skip
 rename_i x c d y
 obtain ⟨h,k,page,rfl,rfl,rfl,⟨ok,okk,okp,d0,d1⟩,h1,h2⟩:=hq
 unfold Aq
 walk_at "dl0"
 walk_at "tq"
 refine ⟨h,k,page,rfl,rfl,rfl,⟨ok,okk,okp,d0,d1⟩,fun g=>h1 (.inl g),fun hw=> ?_⟩
 have cl:=Nat.le_trans (Vu (h:=h) (d:=d)) hw
 have h1:300<(bwE (cO h k d page)).1.length→Xc A.cTooWide none:=fun g=>h1 (.inr g)
 have h2:=fun g=>h2 ⟨hw,g⟩
 have sl:(cO h k d page).length≤300*256:=Nat.le_trans (zb h k d page) (Nat.mul_le_mul okp.1 cl)
 generalize cO h k d page=S at h1 h2 sl
 walk_at "tq"
 refine bH (fun i ρ=> ∃(a6 a7 a8 a9:Sl),ρ=[.sh (aJ A h), .sh (eV A k), .sh (.int d), .sh (.lst (page.map b_)), .gn none (.dn (bD (bwE (S.take i)).1)), .gn none (.dn (wD (bwE (S.take i)).2)),a6,a7,a8,a9, .no]∧(Uv a6&&Uv a7&&Uv a8&&Uv a9)=true) ⟨.no, .no, .no, .no,rfl,rfl⟩ ?_ (e_ (aM aG (aM aG (aM aG du)))) ?_
 ·rintro i x ρ hx ⟨a6,a7,a8,a9,rfl,hpl⟩
  obtain ⟨s,hs,rfl⟩:=gA hx
  have hi:i<S.length:=(List.getElem?_eq_some_iff.mp hs).1
  have e1:bwE (S.take (i+1))=bw1 (bwE (S.take i)) s:=by
   unfold bwE
   rw [dD hs,List.foldl_append];rfl
  obtain ⟨l1,l2⟩:=az6 (S.take i) ([],[])
  rw [e1]
  change (bwE (S.take i)).1.length≤_ at l1
  change (bwE (S.take i)).2.length≤_ at l2
  rw [List.length_take] at l1 l2
  generalize bwE (S.take i)=B at l1 l2
  obtain ⟨e,col,e2⟩:=s
  unfold stD b_
  walk_at "tq"
  refine ⟨rfl, ?_⟩
  intro nx hnx
  have eg:bO (e2.1.1,e2.1.2) (bD B.1)=(bO e2.1 B.1).map D.int:=vA D.int _ _
  have p1:d8 (e2.1.1,e2.1.2) (.int e2.2) (bD B.1)=bD (d8 e2.1 e2.2 B.1):=wj D.int _ _ _
  have p2:d8 (e2.1.1,e2.1.2) (.tup [.tup [.tup (e.1.1.map D.str), .tup (e.1.2.map D.int)], .str col]) (wD B.2)=wD (d8 e2.1 (e.1,col) B.2):=wj wD1 _ (e.1,col) _
  have b1:(bD B.1).length<sizeLine:=by unfold bD;rw [List.length_map,szl];simp at l1;omega
  have b2:(wD B.2).length<sizeLine:=by unfold wD;rw [List.length_map,szl];simp at l2;omega
  rw [eg]
  cases g:bO e2.1 B.1 with
  |none=>
   have eb:bw1 B (e,col,e2)=(d8 e2.1 e2.2 B.1,d8 e2.1 (e.1,col) B.2):=by unfold bw1;rw [g]
   rw [eb] at hnx
   rw [show (!(Option.map D.int none).isSome)=true from rfl]
   walk_at "tq"
   rw [p1,p2]
   exact ⟨b1,b2,hnx _ ⟨_,_,_,_,rfl,rfl⟩⟩
  |some c=>
   have eb:bw1 B (e,col,e2)=if e2.2<c then (d8 e2.1 e2.2 B.1,d8 e2.1 (e.1,col) B.2) else B:=by unfold bw1;rw [g]
   rw [eb] at hnx
   rw [show (!(Option.map D.int (some c)).isSome)=false from rfl]
   walk_at "tq"
   rw [eg,g]
   rw [Option.map_some]
   walk_at "tq"
   refine cV (fun g2=> ?_) (fun g2=> ?_)
   ·rw [if_pos g2] at hnx
    walk_at "tq"
    rw [p1,p2]
    exact ⟨b1,b2,hnx _ ⟨_,_,_,_,rfl,rfl⟩⟩
   ·rw [if_neg g2] at hnx
    walk_at "tq"
    exact hnx _ ⟨_,_,_,_,rfl,rfl⟩
 ·rintro ρ ⟨a6,a7,a8,a9,rfl,hpl⟩
  rw [List.length_map,List.take_length]
  walk_at "tq"
  have bl:(bD (bwE S).1).length=(bwE S).1.length:=List.length_map _
  rw [bl]
  refine cV (fun g=> ?_) (fun g=> ?_)
  ·walk_at "tq"
   exact h1 (by omega)
  ·have h2:=h2 (by omega)
   walk_at "tq"
   refine ⟨?_, ?_,fun x=> ?_⟩
   ·simp only [Bool.and_eq_true] at hpl
    obtain ⟨⟨⟨q1,q2⟩,q3⟩,q4⟩:=hpl
    simp [q1,q2,q3,q4]
    exact ⟨rfl,rfl,rfl,rfl,rfl,rfl,rfl⟩
   ·unfold o8
    rw [List.length_map,bl,szl];omega
   ·have ei:o8 (bD (bwE S).1)=(bwE S).1.map fun p=> .tup [lM p.1, .int p.2]:=by
     unfold o8 bD
     rw [List.map_map];rfl
    rw [ei]
    simp only [List.set]
    refine fJ (fun p:KB×Int=> .tup [lM p.1, .int p.2]) b_ ?_ (e_ (aM aG (aM aG du))) bU ⟨_,rfl,h2⟩
    intro p hp Q' hQ
    simp only [eZ,List.set]
    unfold lM
    walk_at "tq"
    exact ⟨rfl,hQ⟩
theorem az7(c:Tx)(rows:List Tx):((eO c).zip (rows.map D.str)).map (fun p=>D.tup [p.1,p.2])=(c.zip rows).map fun p=> .tup [.str [p.1], .str p.2]:=by
 induction c generalizing rows with
 |nil=>rfl
 |cons a c ih=>
  cases rows with
  |nil=>rfl
  |cons r rows=>simp only [eO,List.map_cons,List.zip_cons_cons] at ih ⊢;rw [ih]
theorem Yb(A:Ad): ∀ds Q,jg A ds Q→Lr A { nx:=fun _=>Q .non,rt:=Q } (bM ["house","key","ways","rows","person","kept","column","mark","row"] ds):=by
 intro ds Q hq
 unfold jg at hq
 split at hq<;>first|exact False.elim hq|skip
 rename_i x y z
 obtain ⟨h,k,ws,rows,rfl,rfl,rfl,⟨hp,hw⟩,hb,hc,hq⟩:=hq
 unfold Lr aJ bA
 walk_at "dl0"
 walk_at "tq"
 refine ⟨by rw [List.length_map,szl];omega, ?_⟩
 refine fJ (eU A) (fun _=> .str []) ?_ aG bU ?_
 ·intro p _ Q' hQ
  simp only [eZ,List.set]
  walk_at "tq"
  exact hQ
 walk_at "tq"
 refine bH (fun i ρ=> ∃(k2:KB) (r2:List Tx) (a4 a5 a6 a7 a8:Sl),ρ=[.sh (aJ A h), .sh (lM k2), .sh (.lst (ws.map U9)), .sh (cR r2),a4,a5,a6,a7,a8]∧(r2.length≤h.ps.length∧(∀r∈r2,r.length≤i))∧wJ (ws.reverse.drop i) k2 r2=some rows) ?_ ?_ aG ?_
 ·refine ⟨k,List.replicate h.ps.length [], .no, .no, .no, .no, .no, ?_,⟨by simp,fun r hr=>by rw [List.eq_of_mem_replicate hr];simp⟩,hb⟩
  rw [show h.ps.map (fun _=>D.str [])=(List.replicate h.ps.length []).map D.str by rw [List.map_replicate];exact List.map_const' ..]
  rfl
 ·rintro i x ρ hx ⟨k2,r2,a4,a5,a6,a7,a8,rfl,⟨l1,l2⟩,hb⟩
  rw [←List.map_reverse] at hx
  obtain ⟨w,hw1,rfl⟩:=gA hx
  have hi:i<ws.reverse.length:=(List.getElem?_eq_some_iff.mp hw1).1
  have wm:w∈ws:=List.mem_reverse.mp (List.mem_of_getElem? hw1)
  have ed:ws.reverse.drop i=w::ws.reverse.drop (i+1):=by
   rw [List.drop_eq_getElem_cons hi]
   congr 1
   rw [List.getElem?_eq_getElem hi,Option.some.injEq] at hw1
   exact hw1
  rw [ed] at hb
  unfold wJ at hb
  unfold lM U9
  walk_at "tq"
  intro nx hnx
  have eg:bO (k2.1,k2.2) (w.map fun p=>(p.1,D.tup [lM p.2.1, .str p.2.2]))=(bO k2 w).map fun z=>D.tup [lM z.1, .str z.2]:=vA (fun z:KB×Tx=>D.tup [lM z.1, .str z.2]) k2 w
  rw [eg]
  cases g:bO k2 w with
  |none=>rw [g] at hb;cases hb
  |some z=>
   rw [g] at hb
   rw [Option.map_some]
   have zc:z.2.length≤100:=by
    have: ∀(l:List (KB×(KB×Tx))),bO k2 l=some z→ ∃p∈l,p.2=z:=by
     intro l
     induction l with
     |nil=>intro e;cases e
     |cons a l ih=>
      intro e
      obtain ⟨a1,a2⟩:=a
      unfold bO at e
      split at e
      ·cases e;exact ⟨_,List.mem_cons_self,rfl⟩
      ·obtain ⟨p,p1,p2⟩:=ih e;exact ⟨p,List.mem_cons_of_mem _ p1,p2⟩
    obtain ⟨p,p1,p2⟩:=this w g
    rw [←p2]
    exact hc w wm p p1
   unfold lM
   walk_at "tq"
   refine ⟨rfl, ?_⟩
   rw [az7]
   refine ⟨by rw [List.length_map,List.length_zip,szl];omega, ?_⟩
   refine fJ (fun p:Nat×Tx=>D.tup [.str [p.1], .str p.2]) (fun p=> .str (p.1::p.2)) ?_ (e_ (aM aG (aM aG du))) bU ?_
   ·intro p hp2 Q' hQ
    have pl:=l2 _ (List.of_mem_zip (a:=p.1) (b:=p.2) hp2).2
    have hi2:i<100:=by rw [List.length_reverse] at hi;omega
    simp only [eZ,List.set]
    walk_at "tq"
    exact ⟨rfl,by rw [szl];simp;omega,hQ⟩
   walk_at "tq"
   rw [show (z.2.zip r2).map (fun p=>D.str (p.1::p.2))=((z.2.zip r2).map fun p=>p.1::p.2).map D.str by rw [List.map_map];rfl]
   refine hnx _ ⟨z.1,_,_,_,_,_,_,rfl,⟨by rw [List.length_map,List.length_zip];omega,fun r hr=> ?_⟩,hb⟩
   obtain ⟨p,hp2,rfl⟩:=List.mem_map.mp hr
   have pl:=l2 _ (List.of_mem_zip (a:=p.1) (b:=p.2) hp2).2
   simp only [List.length_cons];omega
 ·rintro ρ ⟨k2,r2,a4,a5,a6,a7,a8,rfl,_,hb⟩
  rw [List.length_reverse,List.length_map, ←List.length_reverse,List.drop_length] at hb
  unfold wJ at hb
  cases hb
  walk_at "tq"
  exact hq
end K67
set_option maxHeartbeats 0
namespace K67
open PySem L2 DL
theorem Ks(z:Tx)(n:Int):(fu z n).length≤n.toNat:=by
 unfold fu
 rw [List.length_drop];omega
theorem aoj: ∀{r:R},okR r→iT r≤7
 | .never w,h=>by have:=h.2;show (w.length:Int)≤7;omega
 | .nev f,_=>nomatch f
theorem ati{h:Hs}(ok:okH h){q:i_}{r:R}(hr:r∈jE h q):depth r≤2∧okR r:=by
 obtain ⟨z,hz,rfl⟩:=List.mem_map.mp hr
 exact ok.1.2 _ (GX hz)
theorem Ku{h:Hs}(ok:okH h)(q:i_):jF (jE h q)≤7:=by
 obtain ⟨a,b,c⟩:=GP (jE h q) 1
 unfold jF
 rcases c with e|⟨r,hr,e⟩
 ·rw [e];decide
 ·rw [e];exact aoj (ati ok hr).2
theorem aok{h:Hs}(ok:okB h):okE h.ps.length (lJ (cQ h)):=by
 refine ⟨by simp [lJ,eG],by simp [lJ,eG],fun t ht=> ?_,fun c hc=> ?_⟩
 ·obtain ⟨n,hn,rfl⟩:=List.mem_map.mp ht
  obtain ⟨q,hq,rfl⟩:=List.mem_map.mp hn
  have:=Ks q.past (jF (jE h q) - 1)
  have r:=Ku ok.rp q
  show (fu q.past (jF (jE h q) - 1)).length≤100
  omega
 ·obtain ⟨n,hn,rfl⟩:=List.mem_map.mp hc
  decide
theorem atj{h:Hs}(ok:okB h){k:fD}{d:Int}{e e2:En}{col:Tx}(oke:okE h.ps.length e)(hs:pX (cQ h) k d e col=some e2):okE h.ps.length e2:=by
 unfold pX at hs
 split at hs
 ·rename_i al
  cases hs
  refine ⟨by simp [eG],by simp [eG],fun t ht=> ?_,fun c hc=> ?_⟩
  ·obtain ⟨p,hp,rfl⟩:=List.mem_map.mp ht
   have hp:=List.mem_range.mp hp
   rw [eG] at hp
   unfold nxT ag7
   rw [G4 hp]
   have:=Ks (e.1.1.getD p []++[col.getD p 0]) (fK h h.ps[p]).kept
   have r:=Ku ok.rp h.ps[p]
   have ek:(fK h h.ps[p]).kept=jF (jE h h.ps[p]) - 1:=rfl
   omega
  ·obtain ⟨p,hp,rfl⟩:=List.mem_map.mp hc
   have a:=List.all_eq_true.mp al p hp
   have hp:=List.mem_range.mp hp
   rw [eG] at hp
   unfold okS Lq aeV at a
   rw [G4 hp,Bool.and_eq_true,decide_eq_true_eq] at a
   have em:(fK h h.ps[p]).most=h.ps[p].most:=rfl
   have b:=(ok.pp _ (List.getElem_mem hp)).2
   have c0:=oke.2.2.2 (e.1.2.getD p 0) (by simp [List.getD,oke.2.1,hp])
   have d0:0≤U8 (col.getD p 0):=by unfold U8;split<;>decide
   unfold nxN
   omega
 ·cases hs
theorem zf{h:Hs}{k:fD}{d:Int}{page:List En}{s:St}(hs:s∈cO h k d page):s.1∈page∧s.2.1∈gQ h d∧pX (cQ h) k d s.1 s.2.1=some s.2.2:=by
 obtain ⟨e,he,hs⟩:=List.mem_flatMap.mp hs
 obtain ⟨col,hc,hs⟩:=List.mem_filterMap.mp hs
 cases g:pX (cQ h) k d e col with
 |none=>rw [g] at hs;cases hs
 |some e2=>
  rw [g,Option.map_some,Option.some.injEq] at hs
  subst hs
  exact ⟨he,hc,g⟩
theorem Y9{α:Type}{k:KB}{x:α}{p:KB×α}{l:List (KB×α)}(hp:p∈d8 k x l):p=(k,x)∨p∈l:=by
 rw [xW] at hp
 split at hp
 ·obtain ⟨q,hq,e⟩:=List.mem_map.mp hp
  split at e
  ·rename_i g
   left;rw [←e,g]
  ·right;rw [←e];exact hq
 ·rcases List.mem_append.mp hp with q|q
  ·exact .inr q
  ·exact .inl (List.mem_singleton.mp q)
theorem Ck{α:Type}{k:KB}: ∀{l:List (KB×α)},(bO k l).isSome=decide (k∈l.map (·.1))
 |[]=>by simp [bO]
 |(g,x)::r=>by
  unfold bO
  split
  ·rename_i e;subst e;simp
  ·rename_i ne
   rw [Ck]
   simp [Ne.symm ne]
theorem Cm{α:Type}{k:KB}{x:α}{l:List (KB×α)}:(d8 k x l).map (·.1)=if k∈l.map (·.1) then l.map (·.1) else l.map (·.1)++[k]:=by
 rw [xW,Ck]
 by_cases g:k∈l.map (·.1)
 ·rw [if_pos (by simpa using g),if_pos g,List.map_map]
  refine List.map_congr_left fun p _=> ?_
  simp only [Function.comp]
  split<;>rfl
 ·rw [if_neg (by simpa using g),if_neg g,List.map_append];rfl
theorem Y_{α:Type}{k:KB}{v:α}: ∀{l:List (KB×α)},bO k l=some v→(k,v)∈l
 |[],h=>by cases h
 |(g,x)::r,h=>by
  unfold bO at h
  split at h
  ·rename_i e;subst e;cases h;exact List.mem_cons_self
  ·exact List.mem_cons_of_mem _ (Y_ h)
structure atk(T:List St)(b:Bw):Prop where
 key:b.1.map (·.1)=b.2.map (·.1)
 e: ∀p∈b.1, ∃s∈T,s.2.2=p
 w: ∀p∈b.2, ∃s∈T,p.2=(s.1.1,s.2.1)∧s.2.2.1=p.1
theorem avm{T:List St}: ∀(l:List St) (b:Bw),(∀s∈l,s∈T)→atk T b→atk T (l.foldl bw1 b)
 |[],b,_,h=>h
 |s::l,b,hl,h=>by
  rw [List.foldl_cons]
  refine avm l _ (fun x hx=>hl x (List.mem_cons_of_mem _ hx)) ?_
  have hs:=hl s List.mem_cons_self
  have put:atk T (d8 s.2.2.1 s.2.2.2 b.1,d8 s.2.2.1 (s.1.1,s.2.1) b.2):=by
   refine ⟨by rw [Cm,Cm,h.key],fun p hp=> ?_,fun p hp=> ?_⟩
   ·rcases Y9 hp with e|e
    ·exact ⟨s,hs,by rw [e]⟩
    ·exact h.e p e
   ·rcases Y9 hp with e|e
    ·exact ⟨s,hs,by rw [e],by rw [e]⟩
    ·exact h.w p e
  unfold bw1
  split
  ·exact put
  ·split
   ·exact put
   ·exact h
theorem ae2(l:List St):atk l (bwE l):=avm l _ (fun _ h=>h) ⟨rfl,fun _ h=>absurd h List.not_mem_nil,fun _ h=>absurd h List.not_mem_nil⟩
theorem Vw{l:List St}{e:En}:e∈uP l↔e∈(bwE l).1:=(rQ _).mem_iff
theorem aol{h:Hs}(ok:okB h){k:fD}{d:Int}{page:List En}(okp:XF h page)(w:(bwE (cO h k d page)).1.length≤300):XF h (uP (cO h k d page)):=by
 refine ⟨?_,fun e he=> ?_⟩
 ·unfold uP
  rw [(rQ _).length_eq];exact w
 ·obtain ⟨s,hs,rfl⟩:=(ae2 _).e e (Vw.mp he)
  obtain ⟨m1,m2,m3⟩:=zf hs
  exact atj ok (okp.2 _ m1) m3
theorem Vx{h:Hs}(ok:okB h){k:fD}: ∀n,(∀j<n, ¬qN h k j)→XF h (bL h k n)
 | 0,_=>⟨by simp [bL],fun e he=>by
   have:e=lJ (cQ h):=by simpa [bL] using he
   rw [this];exact aok ok⟩
 |n+1,w=>by
  have ih:=Vx ok (k:=k) n fun j hj=>w j (by omega)
  have wn:=w n (by omega)
  unfold qN at wn
  exact aol ok ih (by omega)
theorem az8{h:Hs}{k:fD}{n:Nat}{e:En}(he:e∈bL h k (n+1)): ∃z,bO e.1 (Ow h k n)=some z∧ ∃e0∈bL h k n,z.1=e0.1:=by
 have b:=ae2 (cO h k n (bL h k n))
 have m:=Vw.mp he
 have km:e.1∈(bwE (cO h k n (bL h k n))).2.map (·.1):=by rw [←b.key];exact List.mem_map.mpr ⟨e,m,rfl⟩
 have gs:(bO e.1 (Ow h k n)).isSome=true:=by rw [Ck];exact decide_eq_true km
 obtain ⟨z,hz⟩:=Option.isSome_iff_exists.mp gs
 refine ⟨z,hz, ?_⟩
 obtain ⟨s,hs,e1,e2⟩:=b.w _ (Y_ hz)
 exact ⟨s.1,(zf hs).1,by simp only at e1;rw [e1]⟩
theorem atl{h:Hs}{k:fD}{n:Nat}{p:KB×(KB×Tx)}(hp:p∈Ow h k n):p.2.2.length=h.ps.length:=by
 obtain ⟨s,hs,e1,e2⟩:=(ae2 (cO h k n (bL h k n))).w _ hp
 rw [e1]
 exact (G3 (zf hs).2.1).1
theorem ahl{h:Hs}{k:fD}: ∀(n:Nat) (e:En) (R:List Tx),e∈bL h k n→ ∃rows,wJ ((List.range n).map (Ow h k)).reverse e.1 R=some rows
 | 0,e,R,_=>⟨R,rfl⟩
 |n+1,e,R,he=>by
  obtain ⟨z,hz,e0,h0,ez⟩:=az8 he
  rw [List.range_succ,List.map_append,List.reverse_append]
  simp only [List.map_cons,List.map_nil,List.reverse_cons,List.reverse_nil,List.nil_append,List.singleton_append,List.cons_append]
  unfold wJ
  rw [hz]
  show ∃rows,wJ ((List.range n).map (Ow h k)).reverse z.1 _=some rows
  rw [ez]
  exact ahl n e0 _ h0
theorem ae3{n:Nat}{P:Nat→Bool}: ∀{a:Nat},a<n→P a=true→(∀j<a,P j=false)→(List.range n).find? P=some a:=by
 induction n with
 |zero=>intro a h;omega
 |succ n ih=>
  intro a ha p q
  rw [List.range_succ,List.find?_append]
  by_cases g:a<n
  ·rw [ih g p q];rfl
  ·have e:a=n:=by omega
   subst e
   rw [List.find?_eq_none.mpr (fun x hx=>by rw [q x (List.mem_range.mp hx)];exact Bool.false_ne_true)]
   simp [p]
theorem G5{h:Hs}{k:fD}{n:Nat}(hn:n≤h.d.toNat)(b: ∀j<n,(bL h k j).isEmpty=false)(e:n=h.d.toNat∨(bL h k n).isEmpty=true):j7 h k=n:=by
 unfold j7
 by_cases g:n=h.d.toNat
 ·rw [List.find?_eq_none.mpr (fun x hx=>by rw [b x (by rw [g];exact List.mem_range.mp hx)];exact Bool.false_ne_true)]
  exact g.symm
 ·rw [ae3 (by omega) (e.resolve_left g) b];rfl
theorem adp{h:Hs}{k:fD}{n:Nat}(hn:n<h.d.toNat)(b: ∀j<n,(bL h k j).isEmpty=false)(e:(bL h k n).isEmpty=false):n<j7 h k:=by
 unfold j7
 cases g:(List.range h.d.toNat).find? fun n=>(bL h k n).isEmpty with
 |none=>exact hn
 |some m=>
  show n<m
  have pm:=List.find?_some g
  refine Decidable.byContradiction fun z=> ?_
  by_cases y:m=n
  ·subst y;rw [e] at pm;cases pm
  ·rw [b m (by omega)] at pm;cases pm
theorem Cp(kf:Nat→Int): ∀(n j:Nat),j≤n→kf (PySem.argBest (fun i j=>decide (kf i<kf j)) n)≤kf j
 | 0,j,h=>by
  have:j=0:=by omega
  subst this
  exact Int.le_refl _
 |n+1,j,h=>by
  unfold PySem.argBest
  split
  ·rename_i c
   have c:kf (n+1)<kf (PySem.argBest (fun i j=>decide (kf i<kf j)) n):=by simpa using c
   by_cases e:j=n+1
   ·subst e;exact Int.le_refl _
   ·have:=Cp kf n j (by omega)
    omega
  ·rename_i c
   have c:kf (PySem.argBest (fun i j=>decide (kf i<kf j)) n)≤kf (n+1):=by simpa using c
   by_cases e:j=n+1
   ·subst e;exact c
   ·exact Cp kf n j (by omega)
end K67
set_option maxHeartbeats 0
namespace K67
open PySem L2 DL
theorem G6(A:Ad): ∀ds Q,qF A ds Q→wO A (.no::(ds.map Sl.sh++List.replicate (["self","pages","page"].length - (ds.length+1)) Sl.no)) [] Q:=by
 intro ds Q hq
 unfold qF at hq
 split at hq<;>first|exact False.elim hq|skip
 rename_i x
 obtain ⟨pages,rfl,hl,hq⟩:=hq
 unfold wO
 walk_at "dl0"
 walk_at "tq"
 refine ⟨by rw [List.length_map,szl];omega, ?_⟩
 refine fJ (fun p:List En=>D.lst (p.map b_)) (fun p=> .lst (p.map b_)) ?_ aG bU ?_
 ·intro p _ Q' hQ
  simp only [eZ,List.set]
  walk_at "tq"
  exact hQ
 walk_at "tq"
 exact ⟨by decide,hq⟩
theorem Cq(A:Ad): ∀ds Q,qW A ds Q→uX A (.no::(ds.map Sl.sh++List.replicate (["self","rota","total","paper"].length - (ds.length+1)) Sl.no)) [] Q:=by
 intro ds Q hq
 unfold qW at hq
 split at hq<;>first|exact False.elim hq|skip
 unfold uX
 walk_at "dl0"
 walk_at "tq"
 exact ⟨by decide,by simp,by simp,hq⟩
theorem yI(A:Ad): ∀ds Q,lw A ds Q→sr A (.no::(ds.map Sl.sh++List.replicate (["self","paper"].length - (ds.length+1)) Sl.no)) [] Q:=by
 intro ds Q hq
 unfold lw at hq
 split at hq<;>first|exact False.elim hq|skip
 unfold sr
 walk_at "dl0"
 walk_at "tq"
 exact ⟨by decide,hq⟩
theorem Qh(xs:List D)(x:D):ixD (xs++[x]) (-1)=some x:=by
 unfold ixD
 simp
 exact ⟨by omega,by rw [show ((-1:Int)+((xs.length:Int)+1)).toNat=xs.length by omega];simp⟩
theorem pB: ∀{xs:List D},(∀x∈xs,bu x=true)→eY xs=true
 |[],_=>rfl
 |x::xs,h=>by
  unfold eY
  rw [h x List.mem_cons_self,pB fun y hy=>h y (List.mem_cons_of_mem _ hy)];rfl
theorem vC{n:Nat}: ∀{xs:List D},(∀x∈xs,fL x≤n)→jT xs≤n
 |[],_=>by unfold jT;omega
 |x::xs,h=>by
  unfold jT
  have a:=h x List.mem_cons_self
  have b:=vC (n:=n) fun y hy=>h y (List.mem_cons_of_mem _ hy)
  omega
theorem Za(e:En):bu (b_ e)=true∧fL (b_ e)≤2:=by
 have h1:eY (e.1.1.map D.str)=true:=pB fun x hx=>by obtain ⟨t,_,rfl⟩:=List.mem_map.mp hx;rfl
 have h2:eY (e.1.2.map D.int)=true:=pB fun x hx=>by obtain ⟨t,_,rfl⟩:=List.mem_map.mp hx;rfl
 have h3:jT (e.1.1.map D.str)≤0:=vC fun x hx=>by obtain ⟨t,_,rfl⟩:=List.mem_map.mp hx;exact Nat.le_refl _
 have h4:jT (e.1.2.map D.int)≤0:=vC fun x hx=>by obtain ⟨t,_,rfl⟩:=List.mem_map.mp hx;exact Nat.le_refl _
 unfold b_
 simp only [bu,eY,fL,jT,h1,h2]
 exact ⟨rfl,by omega⟩
theorem jQ(l:List En):bu (.lst (l.map b_))=true∧fL (.lst (l.map b_))≤3:=by
 have h1:eY (l.map b_)=true:=pB fun x hx=>by obtain ⟨t,_,rfl⟩:=List.mem_map.mp hx;exact (Za t).1
 have h2:jT (l.map b_)≤2:=vC fun x hx=>by obtain ⟨t,_,rfl⟩:=List.mem_map.mp hx;exact (Za t).2
 simp only [bu,fL,h1]
 exact ⟨trivial,by omega⟩
theorem Vy(l:List En):eqD (.lst (l.map b_)) (.lst [])=l.isEmpty:=by
 rw [xm (p:=l=[]) (by simp)]
 cases l<;>simp
theorem G7(A:Ad): ∀ds Q Xc,cC A ds Q Xc→qG A Xc { nx:=fun _=>Q .non,rt:=Q } (lU ["house","costs","pages","ways","page","kept","last"] [false,false] ds):=by
 intro ds Q Xc hq
 unfold cC at hq
 split at hq<;>first|exact False.elim hq|skip
 rename_i x c
 obtain ⟨h,k,rfl,rfl,⟨ok,okk⟩,h1,h2⟩:=hq
 have hd:=ok.days
 have hpl:=ok.pl
 unfold qG aJ bA
 walk_at "dl0"
 walk_at "tq"
 refine ⟨h,rfl,⟨ok.rp,by omega⟩, ?_⟩
 walk_at "tq"
 refine ⟨cQ h,rfl,by rw [eG];omega, ?_⟩
 walk_at "tq"
 refine ahJ (fun m ρ=> ∃(n:Nat) (a4 a5:Sl),ρ=[.sh (aJ A h), .sh (eV A k), .ow (.lst (((List.range (n+1)).map (bL h k)).map fun p:List En=>D.lst (p.map b_))), .ow (.lst (((List.range n).map (Ow h k)).map U9)),a4,a5, .no]∧m=h.d.toNat - n∧(n≤h.d.toNat∧(∀j<n,(bL h k j).isEmpty=false)∧ ∀j<n, ¬qN h k j)) h.d.toNat ⟨0, .no, .no,rfl,rfl,by omega,fun j hj=>by omega,fun j hj=>by omega⟩ ?_
 rintro m ρ ⟨n,a4,a5,rfl,rfl,hn,hb,hw⟩ T hT
 have okp:=Vx ok n hw
 unfold aJ bA
 have e1:((List.range (n+1)).map (bL h k)).map (fun p:List En=>D.lst (p.map b_))=((List.range n).map (bL h k)).map (fun p:List En=>D.lst (p.map b_))++[D.lst ((bL h k n).map b_)]:=by rw [List.range_succ,List.map_append,List.map_append];rfl
 rw [e1]
 walk_at "tq"
 have el:(((List.range n).map (bL h k)).map (fun p:List En=>D.lst (p.map b_))++[D.lst ((bL h k n).map b_)]).length=n+1:=by simp
 rw [el]
 have ex:(n=h.d.toNat∨(bL h k n).isEmpty=true)→ ∀(b4 b5:Sl),({ nx:=fun x=>Q .non,rt:=Q }:DEn).rt=Q:=fun _ _ _=>rfl
 refine cV (fun g=> ?_) (fun g=> ?_)
 ·walk_at "tq"
  rw [Qh]
  walk_at "tq"
  refine ⟨⟨(jQ _).1,Nat.le_trans (jQ _).2 (by decide)⟩,⟨rfl,by decide⟩, ?_⟩
  rw [Vy]
  cases ge:(bL h k n).isEmpty with
  |false=>
   have nl:=adp (by omega) hb ge
   walk_at "tq"
   rw [Qh]
   walk_at "tq"
   rw [List.length_map,List.length_map,List.length_range]
   refine ⟨h,k,bL h k n,rfl,rfl,rfl,⟨ok,okk,okp,by omega,by omega⟩,fun w=>h1 ⟨n,nl,w⟩,fun w=> ?_⟩
   have nw: ¬qN h k n:=by unfold qN;omega
   have ep:((List.range (n+1+1)).map (bL h k)).map (fun p:List En=>D.lst (p.map b_))=(((List.range n).map (bL h k)).map (fun p:List En=>D.lst (p.map b_))++[D.lst ((bL h k n).map b_)])++[D.lst ((uP (cO h k n (bL h k n))).map b_)]:=by rw [←e1,List.range_succ (n:=n+1),List.map_append,List.map_append];rfl
   have ew:((List.range (n+1)).map (Ow h k)).map U9=((List.range n).map (Ow h k)).map U9++[U9 (bwE (cO h k n (bL h k n))).2]:=by rw [List.range_succ,List.map_append,List.map_append];rfl
   walk_at "tq"
   refine ⟨rfl,by rw [el,szl];omega,by rw [szl];omega, ?_⟩
   refine hT (h.d.toNat - (n+1)) (by omega) _ ⟨n+1, .sh (.lst ((uP (cO h k n (bL h k n))).map b_)), .sh (U9 (bwE (cO h k n (bL h k n))).2), ?_,rfl,by omega,fun j hj=> ?_,fun j hj=> ?_⟩
   ·rw [ep,ew];rfl
   ·by_cases q:j=n
    ·subst q;exact ge
    ·exact hb j (by omega)
   ·by_cases q:j=n
    ·subst q;exact nw
    ·exact hw j (by omega)
  |true=>
   have ln:=G5 (k:=k) hn hb (.inr ge)
   have q1:=(h2 (fun j hj=>hw j (by omega))).1 (by rw [ln];exact List.isEmpty_iff.mp ge)
   walk_at "tq"
   refine ⟨⟨(jQ _).1,Nat.le_trans (jQ _).2 (by decide)⟩,⟨rfl,by decide⟩, ?_⟩
   refine ⟨(List.range (n+1)).map (bL h k),by rw [e1],by simp;omega, ?_⟩
   unfold rZ Gf nU lK at q1
   rw [ln,e1] at q1
   exact q1
 ·have nd:n=h.d.toNat:=by omega
  have ln:=G5 (k:=k) hn hb (.inl nd)
  walk_at "tq"
  rw [Qh]
  walk_at "tq"
  refine ⟨⟨(jQ _).1,Nat.le_trans (jQ _).2 (by decide)⟩,⟨rfl,by decide⟩, ?_⟩
  rw [Vy]
  obtain ⟨q1,q2⟩:=h2 (fun j hj=>hw j (by omega))
  cases ge:(bL h k n).isEmpty with
  |true=>
   have q1:=q1 (by rw [ln];exact List.isEmpty_iff.mp ge)
   walk_at "tq"
   refine ⟨(List.range (n+1)).map (bL h k),by rw [e1],by simp;omega, ?_⟩
   unfold rZ Gf nU lK at q1
   rw [ln,e1] at q1
   exact q1
  |false=>
   walk_at "tq"
   rw [Qh]
   have pos:0<(bL h k n).length:=by
    refine Nat.pos_of_ne_zero fun z=> ?_
    rw [List.length_eq_zero_iff] at z
    rw [z] at ge
    cases ge
   have oks: ∀e∈bL h k n,okE e.1.2.length e∧e.1.2.length≤100∧okC e.1.2.length h.d.toNat k:=fun e he=>by
    have z:=okp.2 e he
    have l:=z.2.1
    rw [l]
    exact ⟨z,by omega,okk⟩
   refine ⟨(bL h k n).map b_,fun i=>wY k ((bL h k n).getD i ((([],[]),0):En)),rfl,by rw [List.length_map];exact pos,fun i y hy=> ?_,fun y hy=> ?_⟩
   ·obtain ⟨e,he,rfl⟩:=gA hy
    simp only [List.cons_append,List.nil_append]
    walk_at "tq"
    refine ⟨k,e,h.d.toNat,rfl,rfl,oks e (List.mem_of_getElem? he), ?_⟩
    simp [List.getD,he]
   ·obtain ⟨e,he,rfl⟩:=gA hy
    rw [List.length_map] at he
    have em:=List.mem_of_getElem? he
    have least:aaU k (bL h k n) e:=by
     refine ⟨em,fun x hx=> ?_⟩
     obtain ⟨j,hj,rfl⟩:=List.mem_iff_getElem.mp hx
     have:=Cp (fun i=>wY k ((bL h k n).getD i ((([],[]),0):En))) ((bL h k n).length - 1) j (by omega)
     rw [show (bL h k n).getD j ((([],[]),0):En)=(bL h k n)[j] by simp [List.getD,hj]] at this
     generalize PySem.argBest (fun i j=>decide ((fun i=>wY k ((bL h k n).getD i ((([],[]),0):En))) i<(fun i=>wY k ((bL h k n).getD i ((([],[]),0):En))) j)) ((bL h k n).length - 1)=B at he this
     rw [show (bL h k n).getD B ((([],[]),0):En)=e by simp [List.getD,he]] at this
     exact this
    obtain ⟨rows,hrows⟩:=ahl (h:=h) (k:=k) n e (List.replicate h.ps.length []) em
    have q2:=q2 e rows (by rw [ln];exact least) (by unfold acZ;rw [ln];exact hrows)
    have kb:=ath e
    unfold b_
    walk_at "tq"
    refine ⟨h,e.1,(List.range n).map (Ow h k),rows,rfl,rfl,rfl,⟨by omega,by simp;omega⟩,hrows,fun w hw2 p hp=> ?_,k,e,h.d.toNat,rfl,rfl,oks e em,(List.range (n+1)).map (bL h k),by rw [e1];rfl,by simp;omega, ?_⟩
    ·obtain ⟨j,_,rfl⟩:=List.mem_map.mp hw2
     have:=atl hp
     omega
    ·unfold Ka Gf nU lK cR at q2
     rw [ln,e1] at q2
     exact q2
end K67
set_option maxHeartbeats 0
namespace K67
open PySem L2 DL
theorem aom{r:Tx}{i c:Nat}(h:r[i]? =some c):dut (r.take (i+1))=if c=45 then dut (r.take i) else dut (r.take i)+1:=by
 rw [dD h]
 unfold dut
 rw [List.filter_append]
 by_cases g:c=45
 ·rw [if_pos g];simp [g]
 ·rw [if_neg g];simp [g]
theorem aix(k:fD)(p:Nat)(r:Tx):FP k p r 0=0:=rfl
theorem Zb(k:fD)(p:Nat)(r:Tx)(j:Nat):FP k p r (j+1)=FP k p r j+wH k p j (r.getD j 0):=by
 unfold FP
 rw [List.range_succ,List.map_append,List.sum_append]
 simp
theorem aiy(k:fD)(rows:List Tx)(n:Nat):FQ k rows (n+1)=FQ k rows n+(FP k n (rows.getD n []) (rows.getD n []).length+qD k n (dut (rows.getD n []))):=by
 unfold FQ
 rw [List.range_succ,List.map_append,List.sum_append]
 simp
theorem az9(r:Tx):0≤dut r∧dut r≤r.length:=by
 unfold dut
 have:=List.length_filter_le (fun c=> !decide (c=45)) r
 omega
theorem aa6(A:Ad): ∀ds Q,jk A ds Q→Vi A { nx:=fun _=>Q .non,rt:=Q } (bM ["house","costs","rota","whole","p","many","day","mark"] ds):=by
 intro ds Q h
 unfold jk at h
 split at h<;>first|exact False.elim h|skip
 obtain ⟨d,ks,ns,ps,lv,ws,rs,pr,k,rows,rfl,rfl,rfl,⟨⟨hl,d0,d1,hr⟩,ok⟩,h⟩:=h
 unfold Vi
 walk_at "dl0"
 walk_at "dq"
 rw [List.length_map]
 refine ⟨⟨by omega,by omega⟩, ?_⟩
 refine bH (fun i ρ=> ∃b4 b5 b6 b7,ρ=[Sl.sh (bA A d ks ns ps lv ws rs pr),Sl.sh (eV A k),Sl.sh (cR rows),Sl.sh (.int (FQ k rows i)),b4,b5,b6,b7]) ⟨_,_,_,_,rfl⟩ ?_ aG ?_
 ·rintro i x ρ hx ⟨b4,b5,b6,b7,rfl⟩
  obtain ⟨rfl,hi⟩:=jA hx
  have hi:i<rows.length:=by omega
  have er:rows.getD i []=rows[i]:=by simp [List.getD,hi]
  have hri:=hr _ (List.getElem_mem hi)
  have totE:=aiy k rows i
  rw [er] at totE
  rw [totE]
  have hgi:rows[i]? =some rows[i]:=by simp [hi]
  generalize rows[i]=r at hri er hgi
  rw [bV]
  unfold bA
  walk_at "dq"
  intro nx hnx
  refine ⟨⟨by omega,by omega⟩, ?_⟩
  refine bH (fun j ρ=> ∃b6 b7,ρ=[Sl.sh (bA A d ks ns ps lv ws rs pr),Sl.sh (eV A k),Sl.sh (cR rows),Sl.sh (.int (FQ k rows i+FP k i r j)),Sl.sh (.int (i:Int)),Sl.sh (.int (dut (r.take j))),b6,b7]) ⟨b6,b7,by rw [aix,Int.add_zero];rfl⟩ ?_ aG ?_
  ·rintro j x ρ hx ⟨b6,b7,rfl⟩
   obtain ⟨rfl,hj⟩:=jA hx
   have hj:j<r.length:=by omega
   have ec:r.getD j 0=r[j]:=by simp [List.getD,hj]
   have hc:r[j]? =some r[j]:=by simp [hj]
   rw [aom hc,Zb,ec]
   rw [bV]
   walk_at "dq"
   intro nx hnx
   rw [dO,List.getElem?_map,hgi]
   walk_at "tq"
   rw [dO,hc]
   walk_at "tq"
   refine Y7 (p:=(i:Int)) (d:=(j:Int)) (c:=r[j]) ok (by omega) (by omega) (by omega) (by omega) (fun Pl hp=>by walk_at "dq";exact hp) ?_
   walk_at "tq"
   rw [←Int.add_assoc] at hnx
   refine ab0 (fun q=> ?_) (fun q=> ?_)
   ·walk_at "tq"
    rw [if_neg (by simpa using q)] at hnx
    exact hnx _ ⟨_,_,rfl⟩
   ·walk_at "tq"
    rw [if_pos (by simpa using q)] at hnx
    exact hnx _ ⟨_,_,rfl⟩
  ·rintro ρ ⟨b6,b7,rfl⟩
   have dl:=az9 r
   rw [dM, ←hri,List.take_length]
   walk_at "tq"
   refine Vt (p:=(i:Int)) (n:=dut r) ok (by omega) (by omega) dl.1 (by omega) (fun Pl hp=>by walk_at "dq";exact hp) ?_
   walk_at "tq"
   rw [Int.add_assoc]
   exact hnx _ ⟨_,_,_,_,rfl⟩
 ·rintro ρ ⟨b4,b5,b6,b7,rfl⟩
  rw [dM,Int.toNat_natCast]
  walk_at "dq"
  exact h
theorem adq(l:List (List En)):bu (.lst (l.map fun p=>D.lst (p.map b_)))=true∧fL (.lst (l.map fun p=>D.lst (p.map b_)))≤60:=by
 have h1:eY (l.map fun p=>D.lst (p.map b_))=true:=pB fun x hx=>by obtain ⟨t,_,rfl⟩:=List.mem_map.mp hx;exact (jQ t).1
 have h2:jT (l.map fun p=>D.lst (p.map b_))≤3:=vC fun x hx=>by obtain ⟨t,_,rfl⟩:=List.mem_map.mp hx;exact (jQ t).2
 simp only [bu,fL,h1]
 exact ⟨trivial,by omega⟩
theorem aon(page:List En): ∀b:List (KB×Int),(page.foldl v5 b).length≤b.length+page.length:=by
 induction page with
 |nil=>intro b;simp
 |cons e l ih=>
  intro b
  rw [List.foldl_cons]
  have a:=ih (v5 b e)
  have c:(v5 b e).length≤b.length+1:=vB
  simp only [List.length_cons]
  omega
theorem Pn(A:Ad): ∀ds Q,eX A ds Q→Af A { nx:=fun _=>Q .non,rt:=Q } (bM ["page","best","tails","numbers","cost"] ds):=by
 intro ds Q hq
 unfold eX at hq
 split at hq<;>first|exact False.elim hq|skip
 obtain ⟨page,rfl,pl,hq⟩:=hq
 unfold Af
 walk_at "dl0"
 walk_at "tq"
 refine bH (fun i ρ=> ∃(a2 a3 a4:Sl),ρ=[.sh (.lst (page.map b_)), .gn none (.dn (bD (jG (page.take i)))),a2,a3,a4]) ⟨.no, .no, .no,rfl⟩ ?_ (e_ (aM aG (aM aG (aM aG du)))) ?_
 ·rintro i x ρ hx ⟨a2,a3,a4,rfl⟩
  obtain ⟨e,he,rfl⟩:=gA hx
  have l1:=aon (page.take i) []
  change (jG (page.take i)).length≤_ at l1
  simp only [List.length_nil,List.length_take] at l1
  have e1:jG (page.take (i+1))=v5 (jG (page.take i)) e:=by
   unfold jG
   rw [dD he,List.foldl_append];rfl
  rw [e1]
  generalize jG (page.take i)=B at l1
  have eg:bO (e.1.1,e.1.2) (bD B)=(bO e.1 B).map D.int:=vA D.int _ _
  have gd:((bO e.1 B).map D.int).getD (.int e.2)= .int ((bO e.1 B).getD e.2):=by cases bO e.1 B<;>rfl
  have pm:=wj D.int (e.1.1,e.1.2) (if (bO e.1 B).getD e.2<e.2 then (bO e.1 B).getD e.2 else e.2) B
  change d8 (e.1.1,e.1.2) _ (bD B)=bD (v5 B e) at pm
  unfold b_
  walk_at "tq"
  refine ⟨rfl, ?_⟩
  intro nx hnx
  rw [eg,gd]
  walk_at "tq"
  refine ⟨by unfold bD;rw [List.length_map,szl];omega, ?_⟩
  rw [pm]
  exact hnx _ ⟨_,_,_,rfl⟩
 ·rintro ρ ⟨a2,a3,a4,rfl⟩
  rw [List.length_map,List.take_length]
  walk_at "tq"
  exact hq
theorem aiz(A:Ad): ∀ds Q,pJ A ds Q→aha A { nx:=fun _=>Q .non,rt:=Q } (bM ["best","entry","cost"] ds):=by
 intro ds Q hq
 unfold pJ at hq
 split at hq<;>first|exact False.elim hq|skip
 obtain ⟨b,e,rfl,rfl,hq⟩:=hq
 have eg:bO (e.1.1,e.1.2) (b.map fun p=>(p.1,D.int p.2))=(bO e.1 b).map D.int:=vA D.int _ _
 unfold pA at hq
 unfold aha ac0 b_
 walk_at "dl0"
 walk_at "tq"
 rw [eg]
 cases g:bO e.1 b with
 |none=>
  rw [g] at hq
  rw [show (Option.map D.int (none:Option Int)).getD D.non= .non from rfl]
  walk_at "tq"
  rw [show (!DL.sU D.non)=false from rfl]
  walk_at "tq"
  exact hq
 |some c=>
  rw [g] at hq
  rw [show (Option.map D.int (some c)).getD D.non= .int c from rfl]
  walk_at "tq"
  rw [show (!DL.sU (D.int c))=true from rfl]
  walk_at "tq"
  exact hq
theorem zM(A:Ad): ∀ds Q,gG A ds Q→t7 A { nx:=fun _=>Q .non,rt:=Q } (bM ["self","house","costs","day","best","made","before","column","entry"] ds):=by
 intro ds Q hq
 unfold gG at hq
 split at hq<;>first|exact False.elim hq|skip
 rename_i x y c d
 obtain ⟨h,k,pages,n,rfl,rfl,rfl,rfl,⟨ok,okk,okp,nd,np⟩,hq⟩:=hq
 unfold jH at hq
 have gn: ∀n,n<pages.length→ixD (pages.map fun p=>D.lst (p.map b_)) (n:Int)=some (.lst ((pages.getD n []).map b_)):=fun n hn=>by
  rw [dO,List.getElem?_map,List.getElem?_eq_getElem hn]
  simp [List.getD,hn]
 have pm: ∀n,n<pages.length→XF h (pages.getD n []):=fun n hn=>by
  rw [show pages.getD n []=pages[n] by simp [List.getD,hn]]
  exact okp.2 _ (List.getElem_mem hn)
 unfold t7 nU
 walk_at "dl0"
 walk_at "tq"
 rw [List.length_map]
 refine cV (fun g=> ?_) (fun g=> ?_)
 ·rw [decide_eq_false (by omega),Bool.false_and] at hq
  walk_at "tq"
  exact hq
 rw [decide_eq_true (by omega),Bool.true_and] at hq
 walk_at "tq"
 rw [show ((n:Int)+1)=((n+1:Nat):Int) by omega,gn _ (by omega)]
 walk_at "tq"
 refine ⟨pages.getD (n+1) [],rfl,by have:=(pm (n+1) (by omega)).1;omega, ?_⟩
 walk_at "tq"
 rw [gn _ np]
 walk_at "tq"
 trace_state
 refine ⟨h,k,pages.getD n [],rfl,rfl,rfl,⟨ok,okk,pm n np,by omega,nd⟩,fun w=> ?_,fun w=> ?_⟩
 ·rw [decide_eq_false (by omega),Bool.false_and] at hq
  refine ⟨by simp [kW], ?_⟩
  walk_at "tq"
  exact hq
 ·rw [decide_eq_true w,Bool.true_and] at hq
  have sl:=zb h k n (pages.getD n [])
  have sl2:(pages.getD n []).length*(gQ h n).length≤300*256:=Nat.mul_le_mul (pm n np).1 (Nat.le_trans Vu w)
  generalize cO h k n (pages.getD n [])=S at hq sl
  walk_at "tq"
  refine ⟨by rw [List.length_map,szl];omega, ?_⟩
  refine fJ stD (fun s=> .bl (pA (jG (pages.getD (n+1) [])) s.2.2)) ?_ (e_ (aM aG (aM aG (aM aG du)))) bU ?_
  ·intro s _ Q' hQ
   simp only [eZ,List.set]
   unfold stD
   walk_at "tq"
   exact ⟨rfl,jG (pages.getD (n+1) []),s.2.2,rfl,rfl,hQ⟩
  rw [show S.map (fun s=>D.bl (pA (jG (pages.getD (n+1) [])) s.2.2))=(S.map fun s=>pA (jG (pages.getD (n+1) [])) s.2.2).map D.bl by rw [List.map_map];rfl]
  walk_at "tq"
  have al:(S.map fun s=>pA (jG (pages.getD (n+1) [])) s.2.2).all id=S.all fun s=>pA (jG (pages.getD (n+1) [])) s.2.2:=by rw [List.all_map];rfl
  first|(rw [al];exact hq)|(trace_state;done)
theorem oA(h:Hs)(k:fD)(pages:List (List En))(n d:Nat):nW h k pages (n+1) d=if (pages.getD d []).isEmpty then .non else if jH h k pages d then nW h k pages n (d+1) else .int 0:=rfl
theorem wu(h:Hs)(k:fD)(pages:List (List En))(d:Nat):nW h k pages 0 d=acP .non ((pages.getD d []).map (wY k)):=rfl
theorem Vz(A:Ad): ∀ds Q,jP A ds Q→Gz A { nx:=fun _=>Q .non,rt:=Q } (bM ["self","house","costs","day","entry"] ds):=by
 intro ds Q hq
 unfold jP at hq
 split at hq<;>first|exact False.elim hq|skip
 rename_i x y c
 obtain ⟨h,k,pages,rfl,rfl,rfl,⟨ok,okk,okp⟩,hq⟩:=hq
 have hd:=ok.days
 have hpl:=ok.pl
 have pll:=okp.1
 unfold lL at hq
 unfold Gz nU aJ bA
 walk_at "dl0"
 walk_at "tq"
 refine ⟨adq _,⟨rfl,by decide⟩, ?_⟩
 have en:eqD (.lst (pages.map fun p=>D.lst (p.map b_))) (.lst [])=pages.isEmpty:=by
  rw [xm (p:=pages=[]) (by simp)]
  cases pages<;>simp
 rw [en]
 cases ge:pages.isEmpty with
 |true=>
  rw [ge,Bool.true_or,if_pos rfl] at hq
  walk_at "tq"
  exact hq
 |false=>
  rw [ge,Bool.false_or] at hq
  have pos:0<pages.length:=by
   cases pages with
   |nil=>cases ge
   |cons a l=>simp
  have g0:ixD (pages.map fun p=>D.lst (p.map b_)) 0=some (.lst ((pages.getD 0 []).map b_)):=by
   rw [show (0:Int)=((0:Nat):Int) from rfl,dO,List.getElem?_map,List.getElem?_eq_getElem pos]
   simp [List.getD,pos]
  have pm: ∀n,n<pages.length→XF h (pages.getD n []):=fun n hn=>by
   rw [show pages.getD n []=pages[n] by simp [List.getD,hn]]
   exact okp.2 _ (List.getElem_mem hn)
  have gn: ∀n,n<pages.length→ixD (pages.map fun p=>D.lst (p.map b_)) (n:Int)=some (.lst ((pages.getD n []).map b_)):=fun n hn=>by
   rw [dO,List.getElem?_map,List.getElem?_eq_getElem hn]
   simp [List.getD,hn]
  walk_at "tq"
  rw [g0]
  walk_at "tq"
  refine ⟨pages.getD 0 [],rfl,by have:=(pm 0 pos).1;omega,h,rfl,⟨ok.rp,by omega⟩, ?_⟩
  walk_at "tq"
  refine ⟨cQ h,rfl,by rw [eG];omega, ?_⟩
  walk_at "tq"
  refine ⟨jG (pages.getD 0 []),lJ (cQ h),rfl,rfl, ?_⟩
  cases gl:pA (jG (pages.getD 0 [])) (lJ (cQ h)) with
  |false=>
   rw [gl,Bool.not_false,if_pos rfl] at hq
   walk_at "tq"
   exact hq
  |true=>
   rw [gl,Bool.not_true,if_neg (by decide)] at hq
   walk_at "tq"
   refine ⟨by simp only [fM];omega, ?_⟩
   refine bH (fun i ρ=> ∃a3:Sl,ρ=[.sh (nU A pages), .sh (aJ A h), .sh (eV A k),a3, .no]∧(nW h k pages (h.d.toNat - i) i=nW h k pages h.d.toNat 0∧i<pages.length)) ⟨.no,rfl,rfl,pos⟩ ?_ aG ?_
   ·rintro i x ρ hx ⟨a3,rfl,hf,hi⟩
    obtain ⟨rfl,hid⟩:=jA hx
    obtain ⟨m,hm⟩: ∃m,h.d.toNat - i=m+1:=⟨h.d.toNat - i - 1,by omega⟩
    rw [hm,oA] at hf
    have pg:=jQ (pages.getD i [])
    rw [bV]
    unfold nU aJ bA
    walk_at "tq"
    intro nx hnx
    rw [gn i hi]
    walk_at "tq"
    refine ⟨⟨pg.1,Nat.le_trans pg.2 (by decide)⟩,⟨rfl,by decide⟩, ?_⟩
    rw [Vy]
    cases gp:(pages.getD i []).isEmpty with
    |true=>
     rw [gp,if_pos rfl] at hf
     rw [←hf] at hq
     walk_at "tq"
     exact hq
    |false=>
     rw [gp,if_neg (by decide)] at hf
     walk_at "tq"
     refine aV (by rfl) ⟨rfl,rfl⟩ ?_
     walk_at "tq"
     refine ⟨h,k,pages,i,rfl,rfl,rfl,rfl,⟨ok,okk,okp,by omega,hi⟩, ?_⟩
     cases gc:jH h k pages i with
     |false=>
      rw [gc,if_neg (by decide)] at hf
      rw [←hf] at hq
      walk_at "tq"
      exact hq
     |true=>
      rw [gc,if_pos rfl] at hf
      walk_at "tq"
      have np:i+1<pages.length:=by
       unfold jH at gc
       rw [Bool.and_eq_true,decide_eq_true_eq] at gc
       exact gc.1
      exact hnx _ ⟨_,rfl,by rw [show h.d.toNat - (i+1)=m by omega];exact hf,np⟩
   ·rintro ρ ⟨a3,rfl,hf,hi⟩
    rw [dM] at hf hi
    rw [Nat.sub_self,wu] at hf
    have gd:ixD (pages.map fun p=>D.lst (p.map b_)) h.d=some (.lst ((pages.getD h.d.toNat []).map b_)):=by
     rw [show h.d=((h.d.toNat:Nat):Int) by omega]
     exact gn _ hi
    have okd:=pm _ hi
    unfold nU aJ bA
    walk_at "tq"
    rw [gd]
    walk_at "tq"
    refine ⟨by rw [List.length_map,szl];have:=okd.1;omega, ?_⟩
    refine fJ b_ (fun e=> .int (wY k e)) ?_ aG bU ?_
    ·intro e he Q' hQ
     have z:=okd.2 e he
     simp only [eZ,List.set]
     walk_at "tq"
     refine ⟨k,e,h.d.toNat,rfl,rfl,⟨by rw [z.2.1];exact z,by rw [z.2.1];omega,by rw [z.2.1];exact okk⟩,hQ⟩
    rw [←hf] at hq
    walk_at "tq"
    refine ⟨(pages.getD h.d.toNat []).map (wY k),by rw [List.map_map];rfl,hq⟩
end K67
set_option maxHeartbeats 0
namespace K67
open PySem L2 DL
theorem aoo{r:R}(y u:Tx)(h:iT r≤u.length):uB r (y++u)=uB r u:=by
 cases r with
 |never w=>
  have h:w.length≤u.length:=by simp only [iT] at h;omega
  have e:(y++u).drop ((y++u).length - w.length)=u.drop (u.length - w.length):=by
   rw [List.length_append,List.drop_append,List.drop_eq_nil_of_le (by omega),List.nil_append]
   congr 1
   omega
  have h2:w.length≤(y++u).length:=by rw [List.length_append];omega
  simp only [uB,BR]
  rw [e]
  simp only [h,h2,decide_true]
 |nev f=>exact nomatch f
theorem aop{α:Type}{l:List α}{f g:α→Bool}(h: ∀x∈l,f x=g x):l.any f=l.any g:=by
 induction l with
 |nil=>rfl
 |cons x l ih=>rw [List.any_cons,List.any_cons,h x List.mem_cons_self,ih fun y hy=>h y (List.mem_cons_of_mem _ hy)]
theorem aoq{α:Type}{l:List α}{f g:α→Bool}(h: ∀x∈l,f x=g x):l.all f=l.all g:=by
 induction l with
 |nil=>rfl
 |cons x l ih=>rw [List.all_cons,List.all_cons,h x List.mem_cons_self,ih fun y hy=>h y (List.mem_cons_of_mem _ hy)]
theorem atm{r:R}{z:Tx}{n:Int}(h:iT r≤n):uB r (fu z n)=uB r z:=by
 by_cases g:(z.length:Int)≤n
 ·unfold fu
  rw [show ((z.length:Int) - n).toNat=0 by omega,List.drop_zero]
 ·have e:z=z.take ((z.length:Int) - n).toNat++fu z n:=(List.take_append_drop _ _).symm
  have l:(fu z n).length=((z.length:Int) - ((z.length:Int) - n)).toNat:=by
   unfold fu
   rw [List.length_drop];omega
  have:=aoo (r:=r) (z.take ((z.length:Int) - n).toNat) (fu z n) (by rw [l];omega)
  rw [←e] at this
  exact this.symm
theorem Zd(z:Tx)(c:Nat){n:Int}(h:0≤n):fu z n++[c]=fu (z++[c]) (n+1):=by
 unfold fu
 rw [List.drop_append_of_le_length (by rw [List.length_append];simp;omega)]
 congr 2
 rw [List.length_append];simp;omega
theorem ae4(z:Tx)(c:Nat){n:Int}(h:0≤n):fu (fu z n++[c]) n=fu (z++[c]) n:=by
 rw [Zd z c h]
 unfold fu
 rw [List.drop_drop]
 congr 1
 rw [List.length_drop,List.length_append]
 simp only [List.length_cons,List.length_nil]
 omega
def p0:i_:=⟨[],[],0,0,[]⟩
def prs(h:Hs)(p:Nat):i_:=h.ps.getD p p0
def jU(h:Hs)(p:Nat):Int:=jF (jE h (prs h p)) - 1
def oW(rows:List Tx)(d:Nat):Tx:=rows.map fun r=>r.getD d 0
def tlP(h:Hs)(rows:List Tx)(n p:Nat):Tx:=fu ((prs h p).past++(rows.getD p []).take n) (jU h p)
def duP(rows:List Tx)(n p:Nat):Int:=dut ((rows.getD p []).take n)
def G8(h:Hs)(k:fD)(rows:List Tx)(n:Nat):Int:=((List.range n).map fun (d:Nat)=>XD k d (oW rows d) h.ps.length).sum
def lG(h:Hs)(k:fD)(rows:List Tx)(n:Nat):En:=(((List.range h.ps.length).map (tlP h rows n),(List.range h.ps.length).map (duP rows n)),G8 h k rows n)
def okP(h:Hs)(rows:List Tx)(n p:Nat):Bool:=decide (duP rows (n+1) p≤(prs h p).most)&& !((jE h (prs h p)).any fun r=>uB r ((prs h p).past++(rows.getD p []).take (n+1)))
theorem Ze(l:List R):1≤jF l:=(GP l 1).1
theorem ae5{l:List R}{r:R}(hr:r∈l):iT r≤jF l:=(GP l 1).2.1 r hr
theorem aor(t:Tx)(c:Nat):dut (t++[c])=dut t+U8 c:=by
 unfold dut U8
 rw [List.filter_append,List.length_append]
 by_cases g:c=45
 ·subst g;simp
 ·simp [g]
theorem VB{r:Tx}{n:Nat}(h:n<r.length):r.take (n+1)=r.take n++[r.getD n 0]:=dD (wg h)
section
variable{h:Hs}{k:fD}{rows:List Tx}{n p:Nat}
theorem ww(hp:p<h.ps.length):prs h p=h.ps[p]:=by simp [prs,List.getD,hp]
theorem avn(hp:p<h.ps.length):(lG h k rows n).1.1.getD p []=tlP h rows n p:=by simp [lG,List.getD,hp]
theorem aos(hp:p<h.ps.length):(lG h k rows n).1.2.getD p 0=duP rows n p:=by simp [lG,List.getD,hp]
theorem Kv(hp:p<rows.length):(oW rows n).getD p 0=(rows.getD p []).getD n 0:=by simp [oW,List.getD,hp]
theorem ahm:(oW rows n).length=rows.length:=by simp [oW]
theorem ahn(hn:n<(rows.getD p []).length):duP rows (n+1) p=duP rows n p+U8 ((rows.getD p []).getD n 0):=by
 unfold duP
 rw [VB hn,aor]
theorem az_{r:R}(hr:r∈jE h (prs h p))(hn:n<(rows.getD p []).length):uB r (tlP h rows n p++[(rows.getD p []).getD n 0])=uB r ((prs h p).past++(rows.getD p []).take (n+1)):=by
 have g:=Ze (jE h (prs h p))
 unfold tlP
 rw [Zd _ _ (by unfold jU;omega),VB hn, ←List.append_assoc]
 exact atm (by have:=ae5 hr;unfold jU;omega)
theorem aAa(hl:rows.length=h.ps.length)(hp:p<h.ps.length)(hn:n<(rows.getD p []).length):okS (cQ h) (lG h k rows n) (oW rows n) p=okP h rows n p:=by
 unfold okS Lq aeV okP
 rw [G4 hp,avn hp,aos hp,Kv (by omega), ←ahn hn,ww hp]
 have e1:(fK h h.ps[p]).most=h.ps[p].most:=rfl
 have e2:(fK h h.ps[p]).rs=jE h h.ps[p]:=rfl
 rw [e1,e2]
 congr 2
 rw [←ww hp]
 refine aop fun r hr=>az_ hr hn
theorem avo(hl:rows.length=h.ps.length)(hp:p<h.ps.length)(hn:n<(rows.getD p []).length):nxT (cQ h) (lG h k rows n) (oW rows n) p=tlP h rows (n+1) p∧nxN (lG h k rows n) (oW rows n) p=duP rows (n+1) p:=by
 have g:=Ze (jE h (prs h p))
 refine ⟨?_, ?_⟩
 ·unfold nxT ag7
  rw [G4 hp,avn hp,Kv (by omega)]
  have e1:(fK h h.ps[p]).kept=jU h p:=by unfold jU;rw [ww hp];rfl
  rw [e1]
  unfold tlP
  rw [ae4 _ _ (by unfold jU;omega),VB hn, ←List.append_assoc]
 ·unfold nxN
  rw [aos hp,Kv (by omega),ahn hn]
theorem aho(hl:rows.length=h.ps.length)(hn: ∀p<h.ps.length,n<(rows.getD p []).length):pX (cQ h) k n (lG h k rows n) (oW rows n)=if (List.range h.ps.length).all (okP h rows n) then some (lG h k rows (n+1)) else none:=by
 unfold pX
 rw [eG]
 have e1:(List.range h.ps.length).all (okS (cQ h) (lG h k rows n) (oW rows n))=(List.range h.ps.length).all (okP h rows n):=by
  refine aoq fun p hp=> ?_
  have hp:=List.mem_range.mp hp
  exact aAa hl hp (hn p hp)
 rw [e1]
 have e2:(List.range h.ps.length).map (nxT (cQ h) (lG h k rows n) (oW rows n))=(List.range h.ps.length).map (tlP h rows (n+1)):=List.map_congr_left fun p hp=>(avo hl (List.mem_range.mp hp) (hn p (List.mem_range.mp hp))).1
 have e3:(List.range h.ps.length).map (nxN (lG h k rows n) (oW rows n))=(List.range h.ps.length).map (duP rows (n+1)):=List.map_congr_left fun p hp=>(avo hl (List.mem_range.mp hp) (hn p (List.mem_range.mp hp))).2
 rw [e2,e3]
 have e4:(lG h k rows n).2+XD k n (oW rows n) h.ps.length=G8 h k rows (n+1):=by
  show G8 h k rows n+_=_
  unfold G8
  rw [qd]
 rw [e4]
 rfl
theorem Kw:lG h k rows 0=lJ (cQ h):=by
 unfold lG lJ cQ G8
 have e1:(List.range h.ps.length).map (tlP h rows 0)=(h.ps.map (fK h)).map (·.beg):=by
  refine List.ext_getElem? fun p=> ?_
  rw [List.map_map,List.getElem?_map,List.getElem?_map]
  by_cases g:p<h.ps.length
  ·rw [List.getElem?_range g,List.getElem?_eq_getElem g]
   simp only [Option.map_some,Function.comp]
   unfold tlP jU
   rw [ww g,List.take_zero,List.append_nil];rfl
  ·rw [List.getElem?_eq_none (by simp;omega),List.getElem?_eq_none (by omega)];rfl
 have e2:(List.range h.ps.length).map (duP rows 0)=(h.ps.map (fK h)).map fun _=>(0:Int):=by
  refine List.ext_getElem? fun p=> ?_
  rw [List.map_map,List.getElem?_map,List.getElem?_map]
  by_cases g:p<h.ps.length
  ·rw [List.getElem?_range g,List.getElem?_eq_getElem g]
   simp [duP,dut]
  ·rw [List.getElem?_eq_none (by simp;omega),List.getElem?_eq_none (by omega)];rfl
 rw [e1,e2];rfl
end
end K67
set_option maxHeartbeats 0
namespace K67
open PySem L2 DL
theorem Ky{α:Type}{k g:KB}{x:α}: ∀{l:List (KB×α)},bO g (d8 k x l)=if k=g then some x else bO g l
 |[]=>rfl
 |(a,y)::r=>by
  unfold d8
  split
  ·rename_i e
   subst e
   unfold bO
   split
   ·rfl
   ·rename_i ne
    rw [BK]
    have: ∀l:List (KB×α),bO g (l.map fun p=>if p.1=a then (p.1,x) else p)=bO g l:=fun l=>by
     induction l with
     |nil=>rfl
     |cons q l ih=>
      rw [List.map_cons]
      by_cases e:q.1=a
      ·rw [if_pos e]
       unfold bO
       rw [if_neg (by rw [e];exact ne),if_neg (by rw [e];exact ne)]
       exact ih
      ·rw [if_neg e]
       unfold bO
       rw [ih]
    exact this r
  ·rename_i ne
   unfold bO
   split
   ·rename_i e
    subst e
    rw [if_neg (fun z=>ne z.symm)]
   ·exact Ky
theorem adt{α:Type}{k:KB}{v:α}: ∀{l:List (KB×α)},(l.map (·.1)).Nodup→(k,v)∈l→bO k l=some v
 |[],_,h=>absurd h List.not_mem_nil
 |(g,x)::r,nd,h=>by
  rw [List.map_cons,List.nodup_cons] at nd
  unfold bO
  rcases List.mem_cons.mp h with e|e
  ·cases e;rw [if_pos rfl]
  ·rw [if_neg (fun z=>nd.1 (by rw [z];exact List.mem_map.mpr ⟨_,e,rfl⟩))]
   exact adt nd.2 e
theorem aot{α:Type}{k:KB}{x:α}{l:List (KB×α)}(h:(l.map (·.1)).Nodup):((d8 k x l).map (·.1)).Nodup:=by
 rw [Cm]
 split
 ·exact h
 ·rename_i g
  rw [List.nodup_append]
  exact ⟨h,by simp,fun a ha b hb e=>g (by simp only [List.mem_singleton] at hb;rw [←hb, ←e];exact ha)⟩
structure BwW(T:List St)(b:Bw):Prop where
 nd:(b.1.map (·.1)).Nodup
 w: ∀g c,bO g b.1=some c→ ∃s∈T,bO g b.2=some (s.1.1,s.2.1)∧s.2.2=(g,c)
 le: ∀s∈T, ∃c,bO s.2.2.1 b.1=some c∧c≤s.2.2.2
theorem aou{T:List St}{b:Bw}{s:St}(h:BwW T b):BwW (T++[s]) (bw1 b s):=by
 have old: ∀g c,bO g b.1=some c→ ∃x∈T++[s],bO g b.2=some (x.1.1,x.2.1)∧x.2.2=(g,c):=fun g c e=>by
  obtain ⟨x,hx,z⟩:=h.w g c e
  exact ⟨x,List.mem_append_left _ hx,z⟩
 have put:(∀c,bO s.2.2.1 b.1=some c→s.2.2.2<c)→BwW (T++[s]) (d8 s.2.2.1 s.2.2.2 b.1,d8 s.2.2.1 (s.1.1,s.2.1) b.2):=fun lt=>by
  refine ⟨aot h.nd,fun g c e=> ?_,fun x hx=> ?_⟩
  ·simp only [Ky] at e ⊢
   by_cases q:s.2.2.1=g
   ·rw [if_pos q] at e ⊢
    exact ⟨s,by simp,rfl,by cases e;rw [←q]⟩
   ·rw [if_neg q] at e ⊢
    exact old g c e
  ·simp only [Ky]
   by_cases q:s.2.2.1=x.2.2.1
   ·rw [if_pos q]
    refine ⟨_,rfl, ?_⟩
    rcases List.mem_append.mp hx with m|m
    ·obtain ⟨c,e,l⟩:=h.le x m
     rw [←q] at e
     have:=lt c e
     omega
    ·rw [List.mem_singleton.mp m];exact Int.le_refl _
   ·rw [if_neg q]
    rcases List.mem_append.mp hx with m|m
    ·exact h.le x m
    ·exact absurd (by rw [List.mem_singleton.mp m]) q
 unfold bw1
 split
 ·rename_i g
  exact put fun c e=>by rw [g] at e;cases e
 ·rename_i c g
  split
  ·rename_i lt
   exact put fun c' e=>by rw [g] at e;cases e;exact lt
  ·rename_i nlt
   refine ⟨h.nd,old,fun x hx=> ?_⟩
   rcases List.mem_append.mp hx with m|m
   ·exact h.le x m
   ·rw [List.mem_singleton.mp m]
    exact ⟨c,g,by omega⟩
theorem ahp: ∀(l T:List St) (b:Bw),BwW T b→BwW (T++l) (l.foldl bw1 b)
 |[],T,b,h=>by rw [List.append_nil];exact h
 |s::l,T,b,h=>by
  rw [List.foldl_cons,show T++s::l=(T++[s])++l by simp]
  exact ahp l _ _ (aou h)
theorem aDG(l:List St):BwW l (bwE l):=by
 have:=ahp l [] ([],[]) ⟨List.nodup_nil,fun g c e=>(by cases e),fun s hs=>absurd hs List.not_mem_nil⟩
 exact this
theorem aov{h:Hs}{k:fD}{n:Nat}{e:En}(he:e∈bL h k (n+1)): ∃e0 col,e0∈bL h k n∧col∈gQ h n∧pX (cQ h) k n e0 col=some e∧bO e.1 (Ow h k n)=some (e0.1,col):=by
 have b:=aDG (cO h k n (bL h k n))
 have g:=adt b.nd (Vw.mp he)
 obtain ⟨s,hs,w,e2⟩:=b.w _ _ g
 obtain ⟨m1,m2,m3⟩:=zf hs
 exact ⟨s.1,s.2.1,m1,m2,by rw [m3,e2],w⟩
section
variable{h:Hs}{k:fD}{rows:List Tx}
def aDH(h:Hs)(rows:List Tx)(n:Nat):Prop:= ∀j<n,oW rows j∈gQ h j∧ ∀p<h.ps.length,okP h rows j p=true
end
theorem aow{col:Tx}{R:List Tx}{p:Nat}(h1:p<col.length)(h2:p<R.length):((col.zip R).map fun q=>q.1::q.2).getD p []=col.getD p 0::R.getD p []:=by
 simp only [List.getD]
 rw [List.getElem?_map,(List.getElem?_zip_eq_some (z:=(col[p],R[p]))).mpr ⟨List.getElem?_eq_getElem h1,List.getElem?_eq_getElem h2⟩]
 simp [h1,h2]
theorem Zf{h:Hs}{k:fD}: ∀(n:Nat) (e:En) (R:List Tx),e∈bL h k n→R.length=h.ps.length→ ∃rows,wJ ((List.range n).map (Ow h k)).reverse e.1 R=some rows∧rows.length=h.ps.length∧(∀p<h.ps.length,n≤(rows.getD p []).length∧(rows.getD p []).drop n=R.getD p [])∧aDH h rows n∧lG h k rows n=e
 | 0,e,R,he,hR=>by
  have:e=lJ (cQ h):=by simpa [bL] using he
  exact ⟨R,rfl,hR,fun p hp=>⟨by omega,rfl⟩,fun j hj=>by omega,by rw [this];exact Kw⟩
 |n+1,e,R,he,hR=>by
  obtain ⟨e0,col,m0,mc,st,w⟩:=aov he
  have cl:=(G3 mc).1
  obtain ⟨rows,b,rl,dr,wk,en⟩:=Zf n e0 ((col.zip R).map fun q=>q.1::q.2) m0 (by simp [cl,hR])
  have dr2: ∀p<h.ps.length,(rows.getD p []).drop n=col.getD p 0::R.getD p []:=fun p hp=>by
   rw [(dr p hp).2,aow (by omega) (by omega)]
  have ln: ∀p<h.ps.length,n<(rows.getD p []).length:=fun p hp=>by
   have:=congrArg List.length (dr2 p hp)
   rw [List.length_drop] at this
   simp only [List.length_cons] at this
   omega
  have ce:oW rows n=col:=by
   refine List.ext_getElem? fun p=> ?_
   by_cases g:p<h.ps.length
   ·have a:(rows.getD p []).getD n 0=col.getD p 0:=by
     have z:=dr2 p g
     have y:=congrArg (fun l=>l.getD 0 0) z
     simp only [List.getD,List.getElem?_drop,Nat.add_zero,List.getElem?_cons_zero,Option.getD_some] at y
     simpa [List.getD] using y
    rw [wg (by rw [ahm,rl];exact g),Kv (by omega),a,wg (by omega)]
   ·rw [List.getElem?_eq_none (by rw [ahm];omega),List.getElem?_eq_none (by omega)]
  have se:=aho (k:=k) rl ln
  rw [en,ce,st] at se
  have al:(List.range h.ps.length).all (okP h rows n)=true:=by
   refine Decidable.byContradiction fun g=> ?_
   rw [if_neg g] at se
   cases se
  rw [if_pos al] at se
  refine ⟨rows, ?_,rl,fun p hp=>⟨by have:=ln p hp;omega, ?_⟩,fun j hj=> ?_,(Option.some.inj se).symm⟩
  ·rw [List.range_succ,List.map_append,List.reverse_append]
   simp only [List.map_cons,List.map_nil,List.reverse_cons,List.reverse_nil,List.nil_append,List.singleton_append,List.cons_append]
   unfold wJ
   rw [w]
   exact b
  ·have z:=congrArg (List.drop 1) (dr2 p hp)
   rw [List.drop_drop] at z
   simpa [Nat.add_comm] using z
  ·by_cases q:j=n
   ·subst q
    exact ⟨by rw [ce];exact mc,fun p hp=>List.all_eq_true.mp al p (List.mem_range.mpr hp)⟩
   ·exact wk j (by omega)
theorem aa7(f g:Nat→Int): ∀n,((List.range n).map fun p=>f p+g p).sum=((List.range n).map f).sum+((List.range n).map g).sum
 | 0=>rfl
 |n+1=>by rw [qd,qd,qd,aa7 f g n];omega
theorem Zg{h:Hs}{k:fD}{rows:List Tx}(hl:rows.length=h.ps.length): ∀n,G8 h k rows n=((List.range h.ps.length).map fun (p:Nat)=>FP k p (rows.getD p []) n).sum
 | 0=>by
  have: ∀m,((List.range m).map fun (p:Nat)=>FP k p (rows.getD p []) 0).sum=0:=fun m=>by
   induction m with
   |zero=>rfl
   |succ m ih=>rw [qd,ih];rfl
  rw [this];rfl
 |n+1=>by
  have e1:((List.range h.ps.length).map fun (p:Nat)=>FP k p (rows.getD p []) (n+1))=(List.range h.ps.length).map fun (p:Nat)=>FP k p (rows.getD p []) n+wH k p n ((rows.getD p []).getD n 0):=List.map_congr_left fun p _=>Zb k p _ n
  rw [e1,aa7, ←Zg hl n]
  unfold G8
  rw [qd]
  congr 1
  unfold XD
  congr 1
  refine List.map_congr_left fun p hp=> ?_
  rw [Kv (by have:=List.mem_range.mp hp;omega)]
theorem aiA{h:Hs}{k:fD}{rows:List Tx}(hl:rows.length=h.ps.length){n:Nat}(hn: ∀p<h.ps.length,(rows.getD p []).length=n):FQ k rows rows.length=wY k (lG h k rows n):=by
 unfold FQ wY
 have e0:(lG h k rows n).1.2.length=h.ps.length:=by simp [lG]
 rw [hl,e0]
 have e1:((List.range h.ps.length).map fun (p:Nat)=>FP k p (rows.getD p []) (rows.getD p []).length+qD k p (dut (rows.getD p [])))=(List.range h.ps.length).map fun (p:Nat)=>FP k p (rows.getD p []) n+qD k p ((lG h k rows n).1.2.getD p 0):=by
  refine List.map_congr_left fun p hp=> ?_
  have hp:=List.mem_range.mp hp
  rw [hn p hp,aos hp]
  unfold duP
  rw [List.take_of_length_le (by rw [hn p hp];exact Nat.le_refl _)]
 rw [e1,aa7 (fun p=>FP k p (rows.getD p []) n) (fun p=>qD k p ((lG h k rows n).1.2.getD p 0)), ←Zg hl n]
 rfl
end K67
set_option maxHeartbeats 0
namespace K67
open PySem L2 DL
theorem aox{x:Int}(h0:0≤x)(h1:x<26):ixD ([65,66,67,68,69,70,71,72,73,74,75,76,77,78,79,80,81,82,83,84,85,86,87,88,89,90]:List Nat) x=some (65+x.toNat):=by
 have q: ∀k:Fin 26,([65,66,67,68,69,70,71,72,73,74,75,76,77,78,79,80,81,82,83,84,85,86,87,88,89,90]:List Nat)[k.val]? =some (65+k.val):=by decide
 rw [tD _ h0]
 exact q ⟨x.toNat,by omega⟩
def Cr(c:Int)(i:Nat):Nat:=65+((c+7*(0+(i:Int)))%26).toNat
theorem aoy(c:Int){n:Nat}(h:n≤4):((List.range n).map (Cr c)).Nodup:=by
 rw [List.nodup_iff_pairwise_ne,List.pairwise_map]
 refine List.Pairwise.imp_of_mem (R:=fun i j=>i<j) ?_ List.pairwise_lt_range
 intro i j hi hj hij
 have hi:=List.mem_range.mp hi
 have hj:=List.mem_range.mp hj
 unfold Cr
 omega
theorem adu(A:Ad): ∀ds Q,mQ A ds Q→YM A { nx:=fun _=>Q .non,rt:=Q } (bM ["_law_cell","_law_many","_law_letters","_law_k"] ds):=by
 intro ds Q h
 unfold mQ at h
 split at h<;>first|exact False.elim h|skip
 rename_i c k
 obtain ⟨⟨h0,h1⟩,h⟩:=h
 unfold YM
 walk_at "dl0"
 walk_at "tq"
 refine ⟨by simp only [fM];omega,by rw [dM,szl];omega, ?_⟩
 have e:oX 0 k.toNat=(List.range k.toNat).map fun (i:Nat)=>D.int (0+(i:Int)):=rfl
 rw [e]
 refine fJ (fun (i:Nat)=>D.int (0+(i:Int))) (fun i=> .str [Cr c i]) ?_ aG bU ?_
 ·intro i hi Q' hQ
  have hi:=List.mem_range.mp hi
  simp only [eZ,List.set]
  walk_at "tq"
  refine ⟨.inl (by decide),by decide, ?_⟩
  rw [aox (Int.emod_nonneg _ (by decide)) (Int.emod_lt_of_pos _ (by decide))]
  walk_at "tq"
  exact hQ
 ·have e2:(List.range k.toNat).map (fun i=>D.str [Cr c i])=(((List.range k.toNat).map (Cr c)).map fun c=>[c]).map D.str:=by
   rw [List.map_map,List.map_map];rfl
  rw [e2]
  walk_at "tq"
  simp only [akO,Ml,List.length_nil,List.length_map,List.length_range,Nat.mul_zero,Nat.add_zero]
  exact ⟨by omega,h _ (by simp) (aoy c (by omega)) (fun z=>by obtain ⟨i,_,e⟩:=List.mem_map.mp z;unfold Cr at e;omega) (fun z=>by obtain ⟨i,_,e⟩:=List.mem_map.mp z;unfold Cr at e;omega)⟩
def ahq:List Nat:=[98,99,100,101,102,103,104,105,106,107,109,110,111,112,113,114,115,116,117,118,119,120,121,122]
def ahr(x:Int):Nat:=ahq.getD x.toNat 0
theorem ahs{x:Int}(h0:0≤x)(h1:x<24):ixD ([98,99,100,101,102,103,104,105,106,107,109,110,111,112,113,114,115,116,117,118,119,120,121,122]:List Nat) x=some (ahr x):=by
 have q: ∀k:Fin 24,([98,99,100,101,102,103,104,105,106,107,109,110,111,112,113,114,115,116,117,118,119,120,121,122]:List Nat)[k.val]? =some (ahq.getD k.val 0):=by decide
 rw [tD _ h0]
 exact q ⟨x.toNat,by omega⟩
theorem aiB{x y:Int}(x0:0≤x)(x1:x<24)(y0:0≤y)(y1:y<24)(e:ahr x=ahr y):x=y:=by
 have q: ∀a b:Fin 24,ahq.getD a.val 0=ahq.getD b.val 0→a=b:=by decide
 have:=q ⟨x.toNat,by omega⟩ ⟨y.toNat,by omega⟩ e
 rw [Fin.mk.injEq] at this
 omega
def Zh(t:Tx)(a:Nat)(c:Int)(k:Nat):Tx:=t.take a++[ahr ((c / 64+(k:Int))%24)]++t.drop a
theorem aoz(t:Tx)(a:Nat)(c:Int){n:Nat}(h:n≤7):((List.range n).map (Zh t a c)).Nodup:=by
 rw [List.nodup_iff_pairwise_ne,List.pairwise_map]
 refine List.Pairwise.imp_of_mem (R:=fun i j=>i<j) ?_ List.pairwise_lt_range
 intro i j hi hj hij e
 have hi:=List.mem_range.mp hi
 have hj:=List.mem_range.mp hj
 unfold Zh at e
 rw [List.append_assoc,List.append_assoc] at e
 have e:=List.append_cancel_left e
 rw [List.singleton_append,List.singleton_append,List.cons.injEq] at e
 have:=aiB (Int.emod_nonneg _ (by decide)) (Int.emod_lt_of_pos _ (by decide)) (Int.emod_nonneg _ (by decide)) (Int.emod_lt_of_pos _ (by decide)) e.1
 omega
theorem adw(A:Ad): ∀ds Q,mO A ds Q→YL A { nx:=fun _=>Q .non,rt:=Q } (bM ["_law_cell","_law_many","_law_some","_law_stem","_law_k","_law_at"] ds):=by
 intro ds Q h
 unfold mO at h
 split at h<;>first|exact False.elim h|skip
 rename_i c m
 obtain ⟨⟨h0,h1⟩,h⟩:=h
 unfold YL
 walk_at "dl0"
 walk_at "tq"
 have k0:=Int.emod_nonneg c (show (8:Int)≠0 by decide)
 have k1:=Int.emod_lt_of_pos c (show (0:Int)<8 by decide)
 refine ⟨by decide,by simp only [fM];omega, ?_⟩
 refine bH (fun i ρ=> ∃(t:Tx) (a4:Sl),ρ=[.sh (.int c), .sh (.int m), .sh (.str [98,99,100,101,102,103,104,105,106,107,109,110,111,112,113,114,115,116,117,118,119,120,121,122]), .sh (.str t),a4, .no]∧t.length=i) ⟨[], .no,rfl,rfl⟩ ?_ aG ?_
 ·rintro i x ρ hx ⟨t,a4,rfl,ht⟩
  obtain ⟨rfl,hi⟩:=jA hx
  walk_at "tq"
  intro nx hnx
  refine ⟨.inl (by decide),by omega,by decide, ?_⟩
  rw [ahs (Int.emod_nonneg _ (by decide)) (Int.emod_lt_of_pos _ (by decide))]
  walk_at "tq"
  exact ⟨by rw [szl];simp;omega,hnx _ ⟨_,_,rfl,by simp [ht]⟩⟩
 ·rintro ρ ⟨t,a4,rfl,ht⟩
  rw [dM] at ht
  have tl:t.length≤7:=by omega
  have a0:=Int.emod_nonneg (c / 8) (show ((t.length:Nat):Int)+1≠0 by omega)
  have a1:=Int.emod_lt_of_pos (c / 8) (show (0:Int)<((t.length:Nat):Int)+1 by omega)
  walk_at "tq"
  refine ⟨by decide,by omega,by simp only [fM];omega,by rw [dM,szl];omega, ?_⟩
  generalize c / 8%((t.length:Nat)+1)=a at a0 a1
  have e:oX 0 m.toNat=(List.range m.toNat).map fun (i:Nat)=>D.int (0+(i:Int)):=rfl
  rw [e]
  refine fJ (fun (i:Nat)=>D.int (0+(i:Int))) (fun i=> .str (Zh t a.toNat c i)) ?_ aG bU ?_
  ·intro i hi Q' hQ
   have hi:=List.mem_range.mp hi
   simp only [eZ,List.set]
   rw [bV]
   walk_at "tq"
   refine ⟨by decide,by decide, ?_⟩
   rw [ahs (Int.emod_nonneg _ (by decide)) (Int.emod_lt_of_pos _ (by decide))]
   walk_at "tq"
   rw [ad2 _ a0,QK _ a0]
   refine ⟨by rw [szl];simp;omega,by rw [szl];simp;omega,hQ⟩
  rw [show (List.range m.toNat).map (fun i=>D.str (Zh t a.toNat c i))=((List.range m.toNat).map (Zh t a.toNat c)).map D.str by rw [List.map_map];rfl]
  walk_at "tq"
  exact h _ (by simp) (aoz t a.toNat c (by omega)) (fun x hx=>by obtain ⟨k,_,rfl⟩:=List.mem_map.mp hx;unfold Zh;simp;omega)
theorem aiC(l:Tx)(h:1≤l.length):ixD l (-1)=some (l.getD (l.length - 1) 0):=by
 unfold ixD
 rw [if_neg (by decide),if_pos (by omega)]
 rw [show (-1+(l.length:Int)).toNat=l.length - 1 by omega,wg (by omega)]
theorem Qi{ks:Tx}(h:1≤ks.length):ixD ks 0=some (ks.getD 0 0):=by
 unfold ixD
 rw [if_pos (by decide)]
 exact wg (by omega)
theorem aiD(A:Ad): ∀ds Q,tO A ds Q→ahb A { nx:=fun _=>Q .non,rt:=Q } (bM ["_law_cell","_law_day_here","_law_kinds_here","_law_k","_law_kind"] ds):=by
 intro ds Q h
 unfold tO at h
 split at h<;>first|exact False.elim h|skip
 rename_i c d ks
 obtain ⟨⟨h0,h1⟩,h⟩:=h
 unfold ahb
 walk_at "dl0"
 walk_at "tq"
 refine ⟨by decide, ?_⟩
 unfold gR at h
 refine cV (fun g=> ?_) (fun g=> ?_)
 ·rw [if_pos g] at h
  walk_at "tq"
  rw [Qi h0]
  walk_at "tq"
  exact h
 ·rw [if_neg g] at h
  walk_at "tq"
  refine ⟨by decide, ?_⟩
  refine cV (fun g2=> ?_) (fun g2=> ?_)
  ·rw [if_pos g2] at h
   walk_at "tq"
   refine ⟨by rw [List.length_map,List.length_zip,List.length_range,szl];simp [eO];omega, ?_⟩
   refine fJ (fun p:Nat×D=>D.tup [.int (p.1:Nat),p.2]) (fun p=> .tup [.int d,p.2, .int 0, .int (8 - p.1)]) ?_ (e_ (aM aG (aM aG du))) bU ?_
   ·rintro ⟨a,b⟩ _ Q' hQ
    simp only [eZ,List.set]
    walk_at "tq"
    refine ⟨rfl, ?_⟩
    walk_at "tq"
    exact hQ
   have e:((List.range ks.length).zip (eO ks)).map (fun p:Nat×D=>D.tup [.int d,p.2, .int 0, .int (8 - p.1)])=((List.range ks.length).map fun (j:Nat)=>(⟨d,ks.getD j 0,0,8 - j⟩:vZ)).map lN:=by
    apply List.ext_getElem
    ·simp [eO]
    ·intro i h1 h2
     have hi:i<ks.length:=by simpa using h2
     simp [eO,lN,List.getD,hi]
   rw [e]
   exact h
  ·rw [if_neg g2] at h
   walk_at "tq"
   rw [aiC _ h0]
   walk_at "tq"
   refine ⟨by decide, ?_⟩
   have m0:=Int.emod_nonneg c (show (4:Int)≠0 by decide)
   have m1:=Int.emod_lt_of_pos c (show (0:Int)<4 by decide)
   rcases (show c%4=1∨c%4=2 by omega) with e|e
   ·rw [if_pos e] at h
    rw [e]
    exact h
   ·rw [if_neg (by omega)] at h
    rw [e]
    exact h
theorem Yc(A:Ad): ∀ds Q,jh A ds Q→Lw A { nx:=fun _=>Q .non,rt:=Q } (bM ["_law_house_here","_law_names_here","_law_day_here","_law_leave","_law_kinds_here","_law_need","_law_ways","_law_name"] ds):=by
 intro ds Q h
 unfold jh at h
 split at h<;>first|exact False.elim h|skip
 rename_i x y d z
 obtain ⟨h,nms,rfl,rfl,rfl,⟨h0,h1,h2⟩,hq⟩:=h
 unfold Lw aJ bA
 walk_at "dl0"
 walk_at "tq"
 refine ⟨by rw [List.length_map,szl];omega, ?_⟩
 refine QM (fun x=>match x with| .tup [.int e,_,_, .int m]=>decide (e=d)&&decide (0<m)|_=>false) (fun x=>match x with| .tup [_,k,_,_]=>k|_=>x) ?_ ?_
 ·intro x hx Y N hY hN
  obtain ⟨n,hn,rfl⟩:=List.mem_map.mp hx
  unfold lN at hY hN ⊢
  simp only [eZ,List.set]
  walk_at "tq"
  refine cV (fun q=> ?_) (fun q=> ?_)
  ·walk_at "tq"
   refine cV (fun q2=> ?_) (fun q2=>hN (by simp [q2]))
   walk_at "tq"
   exact hY (by simp [q,q2])
  ·walk_at "tq"
   exact hN (by simp [q])
 have el: ∀f:D→D,(((h.l.map lN).filter (fun x=>match x with| .tup [.int e,_,_, .int m]=>decide (e=d)&&decide (0<m)|_=>false)).map f).length=Aa h d:=fun f=>by
  rw [List.length_map,List.filter_map,List.length_map]
  rfl
 generalize hys:(List.filter (fun x=>match x with| .tup [.int e,_,_, .int m]=>decide (e=d)&&decide (0<m)|_=>false) (List.map lN h.l)).map _=ys
 have yl:ys.length=Aa h d:=by rw [←hys];exact el _
 walk_at "tq"
 refine bH (fun i ρ=> ∃a7:Sl,ρ=[.sh (aJ A h), .sh (cR nms), .sh (.int d), .sh (.lst (h.lv.map jC)), .sh (.lst ys), .no, .sh (.int (qO h (nms.take i) d:Nat)),a7]) ⟨.no,rfl⟩ ?_ aG ?_
 ·rintro i x ρ hx ⟨a7,rfl⟩
  obtain ⟨nm,hn,rfl⟩: ∃nm,nms[i]? =some nm∧x= .str nm:=by
   rw [List.getElem?_map] at hx
   cases e:nms[i]? with
   |none=>rw [e] at hx;cases hx
   |some n=>rw [e] at hx;cases hx;exact ⟨n,rfl,rfl⟩
  have ep:qO h (nms.take (i+1)) d=if h.lv.any (fun z=>decide (z=(nm,d))) then qO h (nms.take i) d else qO h (nms.take i) d*(1+Aa h d):=by
   unfold qO
   rw [dD hn,List.foldl_append]
   rfl
  walk_at "tq"
  intro nx hnx
  rw [Ci]
  refine ⟨Kf _ _,Vo h.lv, ?_⟩
  refine jy (fun q=> ?_) (fun q=> ?_)
  ·rw [Bool.not_eq_true'] at q
   rw [q,if_neg Bool.false_ne_true] at ep
   walk_at "tq"
   rw [yl]
   have ol:Aa h d≤100:=Nat.le_trans (List.length_filter_le _ _) h1
   refine ⟨.inr (by omega),hnx _ ⟨.sh (.str nm), ?_⟩⟩
   rw [ep]
   simp only [Int.natCast_mul,Int.natCast_add,Int.natCast_one]
  ·rw [Bool.not_eq_false'] at q
   rw [q,if_pos rfl] at ep
   walk_at "tq"
   refine hnx _ ⟨.sh (.str nm), ?_⟩
   rw [ep]
 ·rintro ρ ⟨a7,rfl⟩
  rw [List.length_map,List.take_length]
  walk_at "tq"
  exact hq
end K67
set_option maxHeartbeats 0
namespace K67
open PySem L2 DL
theorem aht(n:Nat):wV n [45]=List.replicate n 45:=by
 unfold wV
 induction n with
 |zero=>rfl
 |succ n ih=>simp [List.replicate_succ,ih]
theorem atn{ps:List i_}{nms:List Tx}(en:ps.map (·.name)=nms)(nd:nms.Nodup)(pl:ps.length≤100):aaR ps:=by
 refine ⟨pl,fun i j hi hj e=> ?_⟩
 rw [en] at e
 have hn:nms.length=ps.length:=by rw [←en,List.length_map]
 simp only [List.getD,List.getElem?_eq_getElem (show i<nms.length by omega),List.getElem?_eq_getElem (show j<nms.length by omega),Option.getD_some] at e
 exact (List.getElem_inj nd).mp e
theorem ahu(ks:Tx)(c d:Int)(h:ks.length≤4):(gR ks c d).length≤4:=by
 unfold gR
 split
 ·simp
 ·split
  ·simpa using h
  ·split<;>simp
theorem wy(ks:Tx)(sorts:List Int)(i:Nat):((List.range (i+1)).flatMap fun (i:Nat)=>gR ks (sorts.getD i 0) i)=((List.range i).flatMap fun (i:Nat)=>gR ks (sorts.getD i 0) i)++gR ks (sorts.getD i 0) i:=by
 rw [List.range_succ,List.flatMap_append]
 simp
theorem Kz(ks:Tx)(sorts:List Int)(h:ks.length≤4): ∀i,((List.range i).flatMap fun (i:Nat)=>gR ks (sorts.getD i 0) i).length≤4*i
 | 0=>by simp
 |i+1=>by
  rw [wy,List.length_append]
  have a:=Kz ks sorts h i
  have b:=ahu ks (sorts.getD i 0) i h
  omega
theorem ato{x:Int}:0≤x%10 ^ 39∧x%10 ^ 39<10 ^ 39:=⟨Int.emod_nonneg x (by decide),Int.emod_lt_of_pos x (by decide)⟩
theorem aoA{l:List Int}{i:Nat}{x:D}(h:(l.map D.int)[i]? =some x): ∃n,l[i]? =some n∧x= .int n:=by
 rw [List.getElem?_map] at h
 cases e:l[i]? with
 |none=>rw [e] at h;cases h
 |some n=>rw [e] at h;cases h;exact ⟨n,rfl,rfl⟩
theorem aoB{ks:Tx}{sorts:List Int}{l:List vZ}{lv:List (Tx×Int)}{rs:List (Tx×R)}{pr:List Pr}{nms:List Tx}{cr:Int}{pa:Tx}(s:1≤sorts.length∧sorts.length≤10)(k:1≤ks.length∧ks.length≤4∧ks.Nodup∧45∉ks)(n:4≤nms.length∧nms.length≤7)(nd:nms.Nodup)(nl: ∀t∈nms,t.length≤8)
  (hl:l=(List.range sorts.length).flatMap fun (i:Nat)=>gR ks (sorts.getD i 0) i) (hv:lv.length≤4) (pal:pa.length≤1) (bm:0≤cr∧cr<10 ^ 39) (hr:rs.length≤1∧ ∀z∈rs, ∃c,c≠45∧c≠63∧z.2= .never [c,63,c]) (hp:pr.length≤1∧ ∀z∈pr,z.n∈nms∧z.o∈nms):
  yq ⟨(sorts.length:Nat),ks,l,nms.map fun nm=>⟨nm,ks,14,cr+(nm.length:Nat),pa⟩,lv,[],rs,pr⟩ sorts:=by
 have en:(nms.map fun nm=>(⟨nm,ks,14,cr+(nm.length:Nat),pa⟩:i_)).map (·.name)=nms:=by rw [List.map_map];simp [Function.comp_def]
 have ll:=Kz ks sorts k.2.1 sorts.length
 rw [←hl] at ll
 refine ⟨⟨⟨?_, ?_⟩,⟨k.2.1,k.2.2.1,k.2.2.2⟩, ?_, ?_,atn en nd ?_,fun p hp=> ?_, ?_,⟨⟨?_,fun z hz=> ?_⟩, ?_,fun z hz=> ?_⟩⟩,rfl, ?_,fun p hp=> ?_,k.1,hl,hr.2,rfl⟩
 ·show (1:Int)≤(sorts.length:Nat);omega
 ·show ((sorts.length:Nat):Int)≤14;omega
 ·show l.length≤100;omega
 ·show (nms.map _).length≤8;rw [List.length_map];omega
 ·rw [List.length_map];omega
 ·obtain ⟨nm,_,rfl⟩:=List.mem_map.mp hp
  exact ⟨show pa.length≤100 by omega,show (14:Int)≤1000 by decide⟩
 ·show lv.length≤200;omega
 ·show rs.length≤100;omega
 ·obtain ⟨c,_,_,e⟩:=hr.2 z hz
  rw [e];exact ⟨Nat.zero_le _,by simp,by simp⟩
 ·show pr.length≤100;omega
 ·show z.n∈(nms.map fun nm=>(⟨nm,ks,14,cr+(nm.length:Nat),pa⟩:i_)).map (·.name)∧z.o∈(nms.map fun nm=>(⟨nm,ks,14,cr+(nm.length:Nat),pa⟩:i_)).map (·.name)
  rw [en];exact hp.2 z hz
 ·show 4≤(nms.map _).length∧(nms.map _).length≤7;rw [List.length_map];exact n
 ·obtain ⟨nm,hn,rfl⟩:=List.mem_map.mp hp
  have:=nl nm hn
  refine ⟨rfl,rfl, ?_, ?_⟩
  ·show 0≤cr+(nm.length:Nat);omega
  ·show cr+(nm.length:Nat)<10 ^ 40;omega
theorem adx(A:Ad): ∀ds Q,lB A ds Q→YS A { nx:=fun _=>Q .non,rt:=Q } (bM ["_law_script","_law_sorts","_law_kinds_here","_law_names_here","_law_days","_law_needs","_law_day_here","_law_leave","_law_cell","_law_carried","_law_past","_law_persons","_law_name","_law_rules","_law_pairs"] ds):=by
 intro ds Q hq
 unfold lB at hq
 split at hq<;>first|exact False.elim hq|skip
 rename_i x y ks z
 obtain ⟨ns,sorts,nms,rfl,rfl,rfl,⟨⟨s0,s1⟩,⟨k0,k1,kn,k45,k63⟩,n0,n1,nd,nl⟩,hq⟩:=hq
 unfold YS
 walk_at "dl0"
 walk_at "tq"
 rw [List.length_map]
 refine ⟨by simp only [fM];omega, ?_⟩
 refine bH (fun i ρ=> ∃a6:Sl,ρ=[.sh (iK ns), .sh (iK sorts), .sh (.str ks), .sh (cR nms), .sh (.int (sorts.length:Nat)), .sh (.lst (((List.range i).flatMap fun (i:Nat)=>gR ks (sorts.getD i 0) i).map lN)),a6, .no, .no, .no, .no, .no, .no, .no, .no]) ⟨.no,rfl⟩ ?_ aG ?_
 ·rintro i x ρ hx ⟨a6,rfl⟩
  obtain ⟨rfl,hi⟩:=jA hx
  rw [bV]
  walk_at "tq"
  intro nx hnx
  have hi:i<sorts.length:=by simpa using hi
  rw [(aaY (cs:=sorts) (p:=(i:Int)) (by omega) (by omega))]
  walk_at "tq"
  refine ⟨⟨k0,k1⟩, ?_⟩
  rw [Int.toNat_natCast]
  walk_at "tq"
  have hi:i<sorts.length:=by simpa using hi
  have l2:=Kz ks sorts k1 i
  have l3:=ahu ks (sorts.getD i 0) i k1
  refine ⟨by rw [List.length_map,szl,List.length_map];omega, ?_⟩
  rw [←List.map_append, ←wy]
  exact hnx _ ⟨_,rfl⟩
 rintro ρ ⟨a6,rfl⟩
 rw [dM,Int.toNat_natCast]
 walk_at "tq"
 rw [akN _ (by decide) (by decide), ←List.map_take, ←List.map_drop]
 have cl:((ns.take (18:Int).toNat).drop (14:Int).toNat).length≤4:=by
  rw [List.length_drop,List.length_take]
  omega
 generalize (ns.take (18:Int).toNat).drop (14:Int).toNat=cs at cl
 generalize hl:((List.range sorts.length).flatMap fun (i:Nat)=>gR ks (sorts.getD i 0) i)=l
 refine bH (fun i ρ=> ∃(lv:List (Tx×Int)) (a8:Sl),ρ=[.sh (iK ns), .sh (iK sorts), .sh (.str ks), .sh (cR nms), .sh (.int (sorts.length:Nat)), .sh (.lst (l.map lN)),a6, .ow (.lst (lv.map jC)),a8, .no, .no, .no, .no, .no, .no]∧lv.length=i) ⟨[], .no,rfl,rfl⟩ ?_ aG ?_
 ·rintro i x ρ hx ⟨lv,a8,rfl,hlv⟩
  obtain ⟨n,hn,rfl⟩:=aoA hx
  have hi:i<cs.length:=(List.getElem?_eq_some_iff.mp hn).1
  walk_at "tq"
  intro nx hnx
  rw [List.length_map]
  have m0:=Int.emod_nonneg n (show ((nms.length:Nat):Int)≠0 by omega)
  have m1:=Int.emod_lt_of_pos n (show (0:Int)<((nms.length:Nat):Int) by omega)
  obtain ⟨p,hp,hpl⟩: ∃p:Nat,n%((nms.length:Nat):Int)=(p:Int)∧p<nms.length:=⟨(n%((nms.length:Nat):Int)).toNat,by omega,by omega⟩
  rw [hp]
  refine ⟨by omega, ?_⟩
  rw [yH hpl]
  walk_at "tq"
  have el:lv.map jC++[D.tup [.str nms[p], .int (n / 8%(sorts.length:Nat))]]=(lv++[(nms[p],n / 8%(sorts.length:Nat))]).map jC:=by rw [List.map_append];rfl
  refine ⟨⟨by decide,by decide⟩,by omega,by rw [List.length_map,szl];omega, ?_⟩
  rw [el]
  exact hnx _ ⟨_,_,rfl,by rw [List.length_append,hlv];rfl⟩
 rintro ρ ⟨lv,a8,rfl,hlv⟩
 rw [List.length_map] at hlv
 walk_at "tq"
 refine ⟨ns,rfl,by decide,⟨by decide,by decide,by decide⟩,by decide, ?_⟩
 rw [Qi k0]
 walk_at "tq"
 refine ⟨ns,rfl,by decide,by decide, ?_⟩
 obtain ⟨pa,epa,pal⟩: ∃pa:Tx,ixD [D.str [],D.str [45],D.str [ks.getD 0 0]] (ns.getD (Int.toNat 2) 0%3)=some (.str pa)∧pa.length≤1:=by
  rcases (show ns.getD (Int.toNat 2) 0%3=0∨ns.getD (Int.toNat 2) 0%3=1∨ns.getD (Int.toNat 2) 0%3=2 by omega) with e|e|e<;>rw [e]
  ·exact ⟨_,rfl,by decide⟩
  ·exact ⟨_,rfl,by decide⟩
  ·exact ⟨_,rfl,by simp⟩
 rw [epa]
 walk_at "tq"
 have bm:=ato (x:=ns.getD (Int.toNat 2) 0)
 have e39:(10:Int) ^ Int.toNat 39=10 ^ 39:=rfl
 rw [e39]
 generalize ns.getD (Int.toNat 2) 0%10 ^ 39=cr at bm
 refine ⟨by rw [List.length_map,szl];omega, ?_⟩
 refine fJ D.str (fun nm=>eU A ⟨nm,ks,14,cr+(nm.length:Nat),pa⟩) ?_ aG bU ?_
 ·intro nm hnm Q' hQ
  simp only [eZ,List.set]
  walk_at "tq"
  exact hQ
 have ep:nms.map (fun nm=>eU A ⟨nm,ks,14,cr+(nm.length:Nat),pa⟩)=(nms.map fun nm=>(⟨nm,ks,14,cr+(nm.length:Nat),pa⟩:i_)).map (eU A):=by rw [List.map_map];rfl
 rw [ep]
 walk_at "tq"
 have g0:=yH (l:=nms) (p:=0) (by omega)
 rw [show ((0:Nat):Int)=0 from rfl] at g0
 rw [g0]
 walk_at "tq"
 refine ⟨ns,rfl,by decide,by decide, ?_⟩
 obtain ⟨nm,enm⟩: ∃nm:Tx,ixD [D.str [97,108,108],D.str nms[0]] (ns.getD (Int.toNat 3) 0%2)=some (.str nm):=by
  rcases (show ns.getD (Int.toNat 3) 0%2=0∨ns.getD (Int.toNat 3) 0%2=1 by omega) with e|e<;>rw [e]
  ·exact ⟨_,rfl⟩
  ·exact ⟨_,rfl⟩
 rw [enm]
 walk_at "tq"
 rw [Qi k0]
 walk_at "tq"
 have gl:ixD (nms.map D.str) (-1)=some (.str (nms[nms.length - 1]'(by omega))):=by
  have:=yH (l:=nms) (p:=nms.length - 1) (by omega)
  unfold ixD at this ⊢
  rw [if_neg (by decide),if_pos (by rw [List.length_map];omega)]
  rw [if_pos (by omega)] at this
  rw [←this,List.length_map]
  congr 1
  omega
 refine ⟨by rw [szl];simp, ?_⟩
 rw [Qi k0]
 walk_at "tq"
 refine ⟨by rw [szl];simp, ?_⟩
 rw [g0]
 walk_at "tq"
 rw [gl]
 walk_at "tq"
 refine ⟨ns,rfl,by decide,by decide,by decide, ?_⟩
 have k45':ks.getD 0 0≠45:=fun e=>k45 (by rw [←e];simp [List.getD,show 0<ks.length by omega])
 have k63':ks.getD 0 0≠63:=fun e=>k63 (by rw [←e];simp [List.getD,show 0<ks.length by omega])
 have mkd:=fun rs pr hr hp=>aoB (ks:=ks) (l:=l) (lv:=lv) (rs:=rs) (pr:=pr) (nms:=nms) (cr:=cr) (pa:=pa) ⟨s0,s1⟩ ⟨k0,k1,kn,k45⟩ ⟨n0,n1⟩ nd nl hl.symm (by omega) pal bm hr hp
 refine cV (fun _=> ?_) (fun _=> ?_)
 ·walk_at "tq"
  refine hq _ (mkd [(nm, .never [ks.getD 0 0,63,ks.getD 0 0])] [] ⟨Nat.le_refl _,fun z hz=> ?_⟩ ⟨Nat.zero_le _,fun z hz=>absurd hz List.not_mem_nil⟩) rfl (by rw [List.map_map];simp [Function.comp_def])
  rw [List.mem_singleton.mp hz];exact ⟨_,k45',k63',rfl⟩
 ·walk_at "tq"
  refine ⟨ns,rfl,by decide,by decide,by decide, ?_⟩
  refine cV (fun _=> ?_) (fun _=> ?_)
  ·walk_at "tq"
   refine hq _ (mkd [] [⟨yg,nms[0],nms[nms.length - 1]⟩] ⟨Nat.zero_le _,fun z hz=>absurd hz List.not_mem_nil⟩ ⟨Nat.le_refl _,fun z hz=> ?_⟩) rfl (by rw [List.map_map];simp [Function.comp_def])
   rw [List.mem_singleton.mp hz];exact ⟨by simp,by simp⟩
  ·walk_at "tq"
   refine hq _ (mkd [(nm, .never [ks.getD 0 0,63,ks.getD 0 0])] [⟨yg,nms[0],nms[nms.length - 1]⟩] ⟨Nat.le_refl _,fun z hz=> ?_⟩ ⟨Nat.le_refl _,fun z hz=> ?_⟩) rfl (by rw [List.map_map];simp [Function.comp_def])
   ·rw [List.mem_singleton.mp hz];exact ⟨_,k45',k63',rfl⟩
   ·rw [List.mem_singleton.mp hz];exact ⟨by simp,by simp⟩
theorem ady(A:Ad): ∀ds Q,lC A ds Q→YW A { nx:=fun _=>Q .non,rt:=Q } (bM ["_law_script","_law_house_here","_law_cell","_law_person"] ds):=by
 intro ds Q hq
 unfold lC at hq
 split at hq<;>first|exact False.elim hq|skip
 rename_i x y
 obtain ⟨ns,h,sorts,rfl,rfl,dr,hq⟩:=hq
 unfold YW
 walk_at "dl0"
 walk_at "tq"
 refine ⟨ns,rfl,by decide,by decide,by decide, ?_⟩
 generalize ns.getD (Int.toNat 0) 0 / 512=c
 refine cV (fun g=> ?_) (fun g=> ?_)
 ·unfold aJ
  walk_at "tq"
  refine ⟨_,_,_,h.ps,_,[],_,_,by rw [dr.ws];rfl,⟨dr.ok.pn,by simp,by simp⟩, ?_⟩
  exact hq (.even (h.ps.map (·.carried)) 1 []) ⟨by simp,fun c hc=>by obtain ⟨p,hp,rfl⟩:=List.mem_map.mp hc;exact (dr.pm p hp).2.2,by decide,by decide⟩ (fun p d _ _=>rfl)
 ·walk_at "tq"
  refine ⟨by decide, ?_⟩
  refine cV (fun g=> ?_) (fun g=> ?_)
  ·unfold aJ bA
   walk_at "tq"
   have dd:=dr.ok.days
   refine ⟨by rw [List.length_map,szl];have:=dr.ok.pl;omega, ?_⟩
   refine fJ (eU A) (fun _=> .str (List.replicate h.d.toNat 45)) ?_ aG bU ?_
   ·intro q hq' Q' hQ
    simp only [eZ,List.set]
    walk_at "tq"
    refine ⟨⟨by omega,by omega,by decide⟩, ?_⟩
    rw [aht]
    exact hQ
   have ep:h.ps.map (fun _=>D.str (List.replicate h.d.toNat 45))=(h.ps.map fun _=>List.replicate h.d.toNat 45).map D.str:=by rw [List.map_map];rfl
   rw [ep]
   walk_at "tq"
   refine hq (.change (h.ps.map fun _=>List.replicate h.d.toNat 45)) ⟨by simp,fun r hr=>by obtain ⟨_,_,rfl⟩:=List.mem_map.mp hr;simp⟩ (fun p d hp hd=> ?_)
   show (if ((h.ps.map fun _=>List.replicate h.d.toNat 45).getD (p:Int).toNat []).getD (d:Int).toNat 0=45 then (0:Int) else 1)=0
   rw [if_pos]
   simp [List.getD,hp,hd]
  ·unfold aJ bA
   walk_at "tq"
   have pl:=dr.pl
   rw [rG (by decide) (by rw [List.length_map];omega),List.getElem_map]
   walk_at "tq"
   have pl2:=dr.ok.pl
   refine ⟨h.d,h.ks,_,h.ps,_,_,_,_,rfl,by omega, ?_⟩
   exact hq (.level (h.ps.map (·.carried)) (h.ps[Int.toNat 0].carried - 1)) (by show (h.ps.map (·.carried)).length=h.ps.length;simp) (fun p d _ _=>rfl)
end K67
set_option maxHeartbeats 0
namespace K67
open PySem L2 DL
theorem ae6(z:Tx){c:Nat}(hc:c≠45)(h63:c≠63):uB (.never [c,63,c]) (z++[45])=false:=by
 show BR [c,63,c] (z++[45])=false
 unfold BR
 by_cases g:([c,63,c]:Tx).length≤(z++[45]).length
 ·have g2:2≤z.length:=by simpa using g
  rw [show List.length (z++[45]) - List.length [c,63,c]=z.length - 2 by simp]
  rw [List.drop_append_of_le_length (by omega)]
  obtain ⟨a,b,e⟩: ∃a b,z.drop (z.length - 2)=[a,b]:=by
   have hl:(z.drop (z.length - 2)).length=2:=by rw [List.length_drop];omega
   match z.drop (z.length - 2),hl with
   |[a,b],_=>exact ⟨a,b,rfl⟩
  rw [e]
  have f:Ln [c] [45]=false:=by
   unfold Ln
   split
   ·rename_i h;simp only [List.cons.injEq,and_true] at h;exact absurd h h63
   ·split
    ·simp
    ·simpa using hc
  simp [f]
 ·rw [decide_eq_false g,Bool.false_and]
theorem adz{α β:Type}{f g:α→β→α}: ∀(l:List β) (a:α),(∀x∈l, ∀w,f w x=g w x)→l.foldl f a=l.foldl g a
 |[],_,_=>rfl
 |x::l,a,h=>by
  rw [List.foldl_cons,List.foldl_cons,h x List.mem_cons_self]
  exact adz l _ fun y hy=>h y (List.mem_cons_of_mem _ hy)
theorem ahv: ∀(l:List Tx) (w:Nat),(∀m∈l,1≤m.length)→w≤l.foldl (fun w m=>w*m.length) w
 |[],_,_=>Nat.le_refl _
 |m::l,w,h=>by
  rw [List.foldl_cons]
  refine Nat.le_trans ?_ (ahv l _ fun x hx=>h x (List.mem_cons_of_mem _ hx))
  exact Nat.le_mul_of_pos_right _ (h m List.mem_cons_self)
theorem adA: ∀(l:List Tx) (w:Nat),1≤w→(∀m∈l,1≤m.length)→l.foldl (fun w m=>w*m.length) w≤1→ ∀m∈l,m.length=1
 |[],_,_,_,_=>fun _ h=>absurd h List.not_mem_nil
 |m::l,w,hw,h,hl=>by
  rw [List.foldl_cons] at hl
  have a:=ahv l (w*m.length) fun x hx=>h x (List.mem_cons_of_mem _ hx)
  have b:=h m List.mem_cons_self
  have c:w*m.length≤1:=Nat.le_trans a hl
  have d:m.length≤w*m.length:=Nat.le_mul_of_pos_left _ hw
  have e:m.length=1:=by omega
  intro x hx
  rcases List.mem_cons.mp hx with rfl|hx
  ·exact e
  ·exact adA l (w*m.length) (by rw [e];omega) (fun x hx=>h x (List.mem_cons_of_mem _ hx)) hl x hx
theorem adB: ∀(l:List Tx) (w:Nat),(∀m∈l,m.length≤2)→l.foldl (fun w m=>w*m.length) w≤w*2 ^ l.length
 |[],w,_=>by simp
 |m::l,w,h=>by
  rw [List.foldl_cons]
  refine Nat.le_trans (adB l _ fun x hx=>h x (List.mem_cons_of_mem _ hx)) ?_
  rw [List.length_cons,Nat.pow_succ,Nat.mul_assoc]
  refine Nat.mul_le_mul_left _ ?_
  rw [Nat.mul_comm]
  exact Nat.mul_le_mul_left _ (h m List.mem_cons_self)
theorem Zi: ∀(l:List Tx) (c:Tx),(∀m∈l,m=[45])→l.foldl qM [c]=[c++List.replicate l.length 45]
 |[],c,_=>by simp
 |m::l,c,h=>by
  rw [List.foldl_cons,h m List.mem_cons_self]
  have e:qM [c] [45]=[c++[45]]:=rfl
  rw [e,Zi l _ fun x hx=>h x (List.mem_cons_of_mem _ hx),List.length_cons,List.replicate_succ,List.append_assoc]
  rfl
theorem adC{ks:Tx}{c d:Int}: ∀n∈gR ks c d,n.d=d:=by
 intro n hn
 unfold gR at hn
 split at hn
 ·rw [List.mem_singleton.mp hn]
 ·split at hn
  ·obtain ⟨j,_,rfl⟩:=List.mem_map.mp hn;rfl
  ·split at hn
   ·exact absurd hn List.not_mem_nil
   ·rw [List.mem_singleton.mp hn]
theorem ahw{l:List vZ}{d:Int}{k:Nat}(h: ∀n∈l,n.d≠d):l.find? (fun n=>decide (n.d=d)&&decide (n.k=k))=none:=
 List.find?_eq_none.mpr fun n hn=>by simp [h n hn]
theorem ahx{l:List vZ}{d:Int}(h: ∀n∈l,n.d≠d):(l.filter fun x=>decide (x.d=d)&&decide (0<x.hi))=[]:=
 List.filter_eq_nil_iff.mpr fun n hn=>by simp [h n hn]
theorem KC{ks:Tx}{s:List Int}{k:Nat}{n:Nat}: ∀m,n<m→cH ((List.range m).flatMap fun (i:Nat)=>gR ks (s.getD i 0) i) n k=cH (gR ks (s.getD n 0) n) n k:=by
 intro m hm
 have key: ∀m,((List.range m).flatMap fun (i:Nat)=>gR ks (s.getD i 0) i).find? (fun x=>decide (x.d=(n:Int))&&decide (x.k=k))=if n<m then (gR ks (s.getD n 0) n).find? (fun x=>decide (x.d=(n:Int))&&decide (x.k=k)) else none:=by
  intro m
  induction m with
  |zero=>simp
  |succ m ih=>
   rw [wy,List.find?_append,ih]
   by_cases g:n<m
   ·rw [if_pos g,if_pos (by omega)]
    rw [ahw (l:=gR ks (s.getD m 0) m) (fun x hx=>by rw [adC x hx];omega)]
    simp
   ·rw [if_neg g]
    by_cases g2:n=m
    ·subst g2;rw [if_pos (by omega)];simp
    ·rw [if_neg (by omega),ahw (l:=gR ks (s.getD m 0) m) (fun x hx=>by rw [adC x hx];omega)]
     simp
 unfold cH
 rw [key m,if_pos hm]
theorem Zj{ks:Tx}{s:List Int}{n:Nat}: ∀m,n<m→(((List.range m).flatMap fun (i:Nat)=>gR ks (s.getD i 0) i).filter fun x=>decide (x.d=(n:Int))&&decide (0<x.hi))=(gR ks (s.getD n 0) n).filter fun x=>decide (0<x.hi):=by
 intro m hm
 have key: ∀m,(((List.range m).flatMap fun (i:Nat)=>gR ks (s.getD i 0) i).filter fun x=>decide (x.d=(n:Int))&&decide (0<x.hi))=if n<m then (gR ks (s.getD n 0) n).filter fun x=>decide (0<x.hi) else []:=by
  intro m
  induction m with
  |zero=>simp
  |succ m ih=>
   rw [wy,List.filter_append,ih]
   by_cases g:n<m
   ·rw [if_pos g,if_pos (by omega)]
    rw [ahx (l:=gR ks (s.getD m 0) m) (fun x hx=>by rw [adC x hx];omega)]
    simp
   ·rw [if_neg g]
    by_cases g2:n=m
    ·subst g2
     rw [if_pos (by omega),List.nil_append]
     exact List.filter_congr fun x hx=>by rw [adC x hx];simp
    ·rw [if_neg (by omega),ahx (l:=gR ks (s.getD m 0) m) (fun x hx=>by rw [adC x hx];omega)]
     simp
 rw [key m,if_pos hm]
theorem VD{ks:Tx}(nd:ks.Nodup)(l4:ks.length≤4)(l1:1≤ks.length)(c:Int)(n:Int):
  (ks.filter fun k=>decide (0<(cH (gR ks c n) n k).2)).length=((gR ks c n).filter fun x=>decide (0<x.hi)).length∧(c%4≠0→ ∀k∈ks,(cH (gR ks c n) n k).1=0∧0≤(cH (gR ks c n) n k).2)∧(c%4=0→cH (gR ks c n) n (ks.getD 0 0)=(8,8)∧((gR ks c n).filter fun x=>decide (0<x.hi)).length=1):=by
 have m0:=Int.emod_nonneg c (show (4:Int)≠0 by decide)
 have m1:=Int.emod_lt_of_pos c (show (0:Int)<4 by decide)
 rcases (show c%4=0∨c%4=1∨c%4=2∨c%4=3 by omega) with e|e|e|e
 ·have hd:gR ks c n=[⟨n,ks.getD 0 0,8,8⟩]:=by unfold gR;rw [if_pos e]
  have hn: ∀k,cH (gR ks c n) n k=if ks.getD 0 0=k then (8,8) else (0,0):=fun k=>by
   rw [hd]
   unfold cH
   generalize ks.getD 0 0=a
   by_cases g:a=k
   ·subst g;simp
   ·simp [g]
  refine ⟨?_,fun h=>absurd e h,fun _=>⟨by rw [hn,if_pos rfl],by rw [hd];rfl⟩⟩
  rw [show ((gR ks c n).filter fun x=>decide (0<x.hi)).length=1 by rw [hd];rfl]
  cases ks with
  |nil=>simp at l1
  |cons a t=>
   have ha:a∉t:=(List.nodup_cons.mp nd).1
   rw [List.filter_cons_of_pos (by rw [hn];simp [List.getD])]
   rw [List.filter_eq_nil_iff.mpr (fun x hx=>by rw [hn,if_neg (by intro z;apply ha;rw [show a=x from z];exact hx)];decide)]
   rfl
 ·have hd:gR ks c n=[]:=by unfold gR;rw [if_neg (by omega),if_neg (by omega),if_pos e]
  have hn: ∀k,cH (gR ks c n) n k=(0,0):=fun k=>by rw [hd];rfl
  refine ⟨?_,fun _ k _=>by rw [hn];decide,fun h=>by omega⟩
  rw [List.filter_eq_nil_iff.mpr (fun x hx=>by rw [hn];decide),hd]
  rfl
 ·have hd:gR ks c n=[⟨n,ks.getD (ks.length - 1) 0,0,0⟩]:=by unfold gR;rw [if_neg (by omega),if_neg (by omega),if_neg (by omega)]
  have hn: ∀k,cH (gR ks c n) n k=(0,0):=fun k=>by
   rw [hd]
   unfold cH
   generalize ks.getD (ks.length - 1) 0=a
   by_cases g:a=k
   ·subst g;simp
   ·simp [g]
  refine ⟨?_,fun _ k _=>by rw [hn];decide,fun h=>by omega⟩
  rw [List.filter_eq_nil_iff.mpr (fun x hx=>by rw [hn];decide),hd]
  rfl
 ·have hd:gR ks c n=(List.range ks.length).map (fun (j:Nat)=>(⟨n,ks.getD j 0,0,8 - j⟩:vZ)):=by unfold gR;rw [if_neg (by omega),if_pos e]
  have hn: ∀k∈ks,(cH (gR ks c n) n k).1=0∧0<(cH (gR ks c n) n k).2:=fun k hk=>by
   obtain ⟨j,hj,rfl⟩:=List.mem_iff_getElem.mp hk
   unfold cH
   cases f:(gR ks c n).find? (fun x=>decide (x.d=n)&&decide (x.k=ks[j])) with
   |none=>
    have:=List.find?_eq_none.mp f ⟨n,ks.getD j 0,0,8 - j⟩ (by rw [hd];exact List.mem_map.mpr ⟨j,List.mem_range.mpr hj,rfl⟩)
    simp [List.getD,hj] at this
   |some x=>
    have hx:=List.mem_of_find?_eq_some f
    rw [hd] at hx
    obtain ⟨i,hi,rfl⟩:=List.mem_map.mp hx
    have:=List.mem_range.mp hi
    exact ⟨rfl,show (0:Int)<8 - (i:Int) by omega⟩
  refine ⟨?_,fun _ k hk=>⟨(hn k hk).1,Int.le_of_lt (hn k hk).2⟩,fun h=>by omega⟩
  rw [List.filter_eq_self.mpr (fun x hx=>by simpa using (hn x hx).2)]
  rw [List.filter_eq_self.mpr (fun x hx=>by
   rw [hd] at hx
   obtain ⟨i,hi,rfl⟩:=List.mem_map.mp hx
   have:=List.mem_range.mp hi
   simp;omega),hd]
  simp
section
variable{h:Hs}{sorts:List Int}(dr:yq h sorts)
include dr
theorem uD:h.d.toNat=sorts.length:=by rw [dr.dl];rfl
theorem aiE{n:Nat}(hn:n<sorts.length):(acS h.l h.ks n).length=Aa h n:=by
 have ok:=dr.ok.ks
 unfold acS Aa
 rw [dr.nd,Zj _ hn]
 have e: ∀k,cH ((List.range sorts.length).flatMap fun (i:Nat)=>gR h.ks (sorts.getD i 0) i) n k=cH (gR h.ks (sorts.getD n 0) n) n k:=fun k=>KC _ hn
 simp only [e]
 exact (VD ok.2.1 ok.1 dr.kl _ _).1
theorem aoC{n:Nat}(hn:n<sorts.length){q:i_}(hq:q∈h.ps):(Ov h.ks h.l q h.lv n).length=if h.lv.any (fun z=>decide (z=(q.name,(n:Int)))) then 0 else Aa h n:=by
 unfold Ov
 split
 ·rfl
 ·rw [(dr.pm q hq).2.1,List.filter_eq_self.mpr (fun k hk=>by simpa using (List.mem_filter.mp hk).1)]
  exact aiE dr hn
theorem vD{n:Nat}:bf h n=h.ps.map fun q=>45::Ov h.ks h.l q h.lv n:=by
 unfold bf
 refine List.ext_getElem (by simp) fun i h1 h2=> ?_
 have hi:i<h.ps.length:=by simpa using h2
 simp [F_,hi]
theorem vG{n:Nat}(hn:n<sorts.length):jd (bf h n)=qO h (h.ps.map (·.name)) n:=by
 unfold jd qO
 rw [vD dr,List.foldl_map,List.foldl_map]
 refine adz _ _ fun q hq w=> ?_
 rw [List.length_cons,aoC dr hn hq]
 split
 ·simp
 ·rw [Nat.add_comm]
def jV(h:Hs):List Tx:=List.replicate h.ps.length (List.replicate h.d.toNat 45)
def mV(h:Hs):Tx:=List.replicate h.ps.length 45
theorem adD{n:Nat}(hn:n<sorts.length)(q:qO h (h.ps.map (·.name)) n≤1): ∀m∈bf h n,m=[45]:=by
 rw [←vG dr hn] at q
 have g: ∀m∈bf h n,1≤m.length:=fun m hm=>by
  rw [vD dr] at hm
  obtain ⟨_,_,rfl⟩:=List.mem_map.mp hm
  simp
 intro m hm
 have e:=adA _ 1 (Nat.le_refl _) g q m hm
 rw [vD dr] at hm
 obtain ⟨p,_,rfl⟩:=List.mem_map.mp hm
 rw [List.length_cons] at e
 rw [List.length_eq_zero_iff.mp (show (Ov h.ks h.l p h.lv n).length=0 by omega)]
theorem aoD{n:Nat}(hn:n<sorts.length)(c:sorts.getD n 0%4≠0): ∀k∈h.ks,(cH h.l n k).1=0∧0≤(cH h.l n k).2:=by
 have ok:=dr.ok.ks
 rw [dr.nd]
 intro k hk
 rw [KC _ hn]
 exact (VD ok.2.1 ok.1 dr.kl _ _).2.1 c k hk
theorem ahy{n:Nat}(hn:n<sorts.length)(c:sorts.getD n 0%4≠0):(nR h n (mV h)&&pG h (mV h))=true:=by
 have a:nR h n (mV h)=true:=List.all_eq_true.mpr fun k hk=>by
  obtain ⟨b1,b2⟩:=aoD dr hn c k hk
  have c0:Ot k (mV h)=0:=by
   unfold Ot mV
   rw [List.filter_eq_nil_iff.mpr (fun x hx=>by
    rw [(List.mem_replicate.mp hx).2]
    have:k≠45:=fun e=>dr.ok.ks.2.2 (e ▸ hk)
    simp;omega)]
   rfl
  unfold Lp
  rw [c0,b1]
  simp [b2]
 have b:pG h (mV h)=true:=List.all_eq_true.mpr fun z hz=>by
  unfold J_
  have pn:=dr.ok.rp.2.2 z hz
  have:=(an9 pn.1).1
  simp [mV,List.getD,this]
 rw [a,b];rfl
theorem VF{n:Nat}(hn:n<sorts.length)(q:qO h (h.ps.map (·.name)) n≤1)(c:sorts.getD n 0%4≠0):gQ h n=[mV h]:=by
 have e:yh h n=[mV h]:=by
  have el:(bf h n).length=h.ps.length:=by simp [bf]
  have e0:nQ (bf h n)=[mV h]:=by
   unfold nQ
   rw [Zi _ [] (adD dr hn q),el,List.nil_append]
   rfl
  unfold yh
  rw [e0,List.filter_cons,if_pos (ahy dr hn c)]
  rfl
 have:=mG h n
 rw [e] at this
 exact List.perm_singleton.mp this
theorem G9{p:Nat}(hp:p<h.ps.length):(jV h).getD p []=List.replicate h.d.toNat 45:=by simp [jV,List.getD,hp]
theorem yJ:(jV h).length=h.ps.length:=by simp [jV]
theorem adE{n:Nat}(hn:n<h.d.toNat):oW (jV h) n=mV h:=by
 unfold oW jV mV
 rw [List.map_replicate]
 congr 1
 simp [List.getD,hn]
theorem ahz(n p:Nat):duP (jV h) n p=0:=by
 unfold duP dut
 rw [List.filter_eq_nil_iff.mpr (fun x hx=>by
  have hx:=List.mem_of_mem_take hx
  unfold jV at hx
  simp only [List.getD,List.getElem?_replicate] at hx
  split at hx
  ·simp only [Option.getD_some] at hx
   rw [(List.mem_replicate.mp hx).2];decide
  ·simp at hx)]
 rfl
theorem aoE{n p:Nat}(hp:p<h.ps.length)(hn:n<h.d.toNat):okP h (jV h) n p=true:=by
 unfold okP
 have hq:h.ps[p]∈h.ps:=List.getElem_mem hp
 rw [ahz dr,ww hp,(dr.pm _ hq).1,G9 dr hp]
 have:(jE h h.ps[p]).any (fun r=>uB r (h.ps[p].past++(List.replicate h.d.toNat 45).take (n+1)))=false:=by
  rw [List.any_eq_false]
  intro r hr
  obtain ⟨z,hz,rfl⟩:=List.mem_map.mp hr
  obtain ⟨c,hc,h63,e⟩:=dr.ru _ (GX hz)
  have e:z.2.2= .never [c,63,c]:=e
  rw [e,List.take_replicate,Nat.min_eq_left (by omega),List.replicate_succ', ←List.append_assoc]
  rw [ae6 _ hc h63];exact Bool.false_ne_true
 rw [this];decide
end
end K67
set_option maxHeartbeats 0
namespace K67
open PySem L2 DL
theorem yK: ∀(l:List Int),(∀x∈l,x=0)→l.sum=0
 |[],_=>rfl
 |x::l,h=>by rw [List.sum_cons,h x List.mem_cons_self,yK l fun y hy=>h y (List.mem_cons_of_mem _ hy)];rfl
theorem Zk(e:En):pA (jG [e]) e=true:=by
 simp [pA,jG,v5,d8,bO]
theorem ae7(s:St):(bwE [s]).1=[s.2.2]:=rfl
theorem aoF(s:St):uP [s]=[s.2.2]:=by
 have:=rQ (bwE [s]).1
 rw [ae7] at this
 unfold uP
 rw [ae7]
 exact List.perm_singleton.mp this
theorem aiF:uP []=[]:=List.perm_nil.mp (rQ _)
theorem Zm{h:Hs}{k:fD}{n:Nat}(hn:n≤j7 h k):(lK h k).getD n []=bL h k n:=by
 simp [lK,List.getD,show n<j7 h k+1 by omega]
theorem VG{h:Hs}{k:fD}:(lK h k).length=j7 h k+1:=by simp [lK]
def EE(h:Hs)(k:fD)(n:Nat):En:=lG h k (jV h) n
def oE(h:Hs)(sorts:List Int)(i:Nat):Prop:= ∀j<i,qO h (h.ps.map (·.name)) j≤1∧sorts.getD j 0%4≠0
def adF(h:Hs)(k:fD):Prop:= ∀(p d:Nat),p<h.ps.length→d<h.d.toNat→wH k p d 45=0
section
variable{h:Hs}{sorts:List Int}{k:fD}{i:Nat}(dr:yq h sorts)
include dr
theorem ae8{n:Nat}(hn:n<sorts.length):pX (cQ h) k n (EE h k n) (mV h)=some (EE h k (n+1)):=by
 have hd:n<h.d.toNat:=by rw [uD dr];exact hn
 have:=aho (h:=h) (k:=k) (rows:=jV h) (n:=n) (yJ dr) (fun p hp=>by rw [G9 dr hp];simpa using hd)
 rw [adE dr hd] at this
 unfold EE
 rw [this,if_pos (List.all_eq_true.mpr fun p hp=>aoE dr (List.mem_range.mp hp) hd)]
theorem yL(q:oE h sorts i)(hi:i≤sorts.length){n:Nat}(hn:n<i):cO h k n [EE h k n]=[(EE h k n,mV h,EE h k (n+1))]:=by
 have c:=VF dr (show n<sorts.length by omega) (q n hn).1 (q n hn).2
 have s:=ae8 (k:=k) dr (show n<sorts.length by omega)
 simp [cO,c,s]
theorem jn(q:oE h sorts i)(hi:i≤sorts.length): ∀n,n≤i→bL h k n=[EE h k n]
 | 0,_=>by
  show [lJ (cQ h)]=_
  unfold EE
  rw [Kw]
 |n+1,hn=>by
  show uP (cO h k n (bL h k n))=_
  rw [jn q hi n (by omega),yL dr q hi hn,aoF]
theorem VH(q:oE h sorts i)(hi:i≤sorts.length){n:Nat}(hn:n<i):jd (bf h n)≤256:=by
 rw [vG dr (by omega)]
 have:=(q n hn).1
 omega
theorem VJ(q:oE h sorts i)(hi:i≤sorts.length){n:Nat}(hn:n<i): ¬qN h k n:=by
 unfold qN
 rw [jn dr q hi n (by omega),yL dr q hi hn,ae7]
 have:=VH dr q hi hn
 simp;omega
theorem Yd(q:oE h sorts i)(hi:i≤sorts.length){P:List (List En)}{n:Nat}(hn:n<i)(h1:P.getD n []=[EE h k n])(h2:P.getD (n+1) []=[EE h k (n+1)])(hl:n+1<P.length):jH h k P n=true:=by
 unfold jH
 rw [h1,h2,yL dr q hi hn,decide_eq_true hl,decide_eq_true (VH dr q hi hn)]
 simp [Zk]
theorem G_(q:oE h sorts i)(hi:i≤sorts.length){P:List (List En)}(hP: ∀n≤i,P.getD n []=[EE h k n])(hl:i<P.length): ∀m j,j+m=h.d.toNat→j≤i→nW h k P m j=nW h k P (h.d.toNat - i) i
 | 0,j,e,hj=>by
  have:=uD dr
  have:j=i:=by omega
  subst this
  rw [show h.d.toNat - j=0 by omega]
 |m+1,j,e,hj=>by
  by_cases g:j=i
  ·subst g
   rw [show h.d.toNat - j=m+1 by omega]
  ·rw [oA,hP j hj,Yd dr q hi (show j<i by omega) (hP j hj) (hP (j+1) (by omega)) (by omega)]
   exact G_ q hi hP hl m (j+1) (by omega) (by omega)
theorem yM{P:List (List En)}(h0:P.getD 0 []=[EE h k 0])(hl:0<P.length):lL h k P=nW h k P h.d.toNat 0:=by
 unfold lL
 have e:lJ (cQ h)=EE h k 0:=by unfold EE;rw [Kw]
 rw [h0,e,Zk]
 cases P with
 |nil=>simp at hl
 |cons a t=>rfl
theorem atp(ck:adF h k){n:Nat}(hn:n≤h.d.toNat):EE h k n=U_ h n:=by
 have c0:G8 h k (jV h) n=0:=by
  unfold G8
  refine yK _ fun x hx=> ?_
  obtain ⟨d,hd,rfl⟩:=List.mem_map.mp hx
  have hd:=List.mem_range.mp hd
  unfold XD
  refine yK _ fun x hx=> ?_
  obtain ⟨p,hp,rfl⟩:=List.mem_map.mp hx
  have hp:=List.mem_range.mp hp
  rw [adE dr (by omega)]
  have:(mV h).getD p 0=45:=by simp [mV,List.getD,hp]
  rw [this]
  exact ck p d hp (by omega)
 unfold EE lG U_
 rw [c0]
 have e1:(List.range h.ps.length).map (tlP h (jV h) n)=h.ps.map fun p=>fu (p.past++List.replicate n 45) (jF (jE h p) - 1):=by
  refine List.ext_getElem (by simp) fun j h1 h2=> ?_
  have hj:j<h.ps.length:=by simpa using h2
  simp only [List.getElem_map,List.getElem_range]
  unfold tlP jU
  rw [ww hj,G9 dr hj,List.take_replicate,Nat.min_eq_left hn]
 have e2:(List.range h.ps.length).map (duP (jV h) n)=h.ps.map fun _=>(0:Int):=by
  refine List.ext_getElem (by simp) fun j h1 h2=> ?_
  simp only [List.getElem_map,List.getElem_range]
  exact ahz dr n j
 rw [e1,e2]
theorem zg(ck:adF h k){n:Nat}(hn:n≤h.d.toNat):(pY h).getD n []=[EE h k n]:=by
 rw [atp dr ck hn]
 simp [pY,List.getD,show n<h.d.toNat+1 by omega]
theorem Hf:(pY h).length=h.d.toNat+1:=by simp [pY]
theorem ae9(ck:adF h k)(q:oE h sorts i)(hi:i<sorts.length)(w:256<qO h (h.ps.map (·.name)) i):lL h k (pY h)= .int 0:=by
 have dl:=uD dr
 rw [yM dr (zg dr ck (Nat.zero_le _)) (by rw [Hf dr];omega),G_ dr q (by omega) (fun n hn=>zg dr ck (by omega)) (by rw [Hf dr];omega) _ 0 (by omega) (Nat.zero_le _)]
 obtain ⟨m,hm⟩: ∃m,h.d.toNat - i=m+1:=⟨h.d.toNat - i - 1,by omega⟩
 rw [hm,oA,zg dr ck (by omega)]
 have:jH h k (pY h) i=false:=by
  unfold jH
  rw [vG dr hi,decide_eq_false (p:=qO h (h.ps.map (·.name)) i≤256) (by omega)]
  simp
 rw [this];rfl
theorem ae_(ck:adF h k)(q:oE h sorts sorts.length):lL h k (pY h)= .int (wY k (EE h k h.d.toNat)):=by
 have dl:=uD dr
 rw [yM dr (zg dr ck (Nat.zero_le _)) (by rw [Hf dr];omega),G_ dr q (Nat.le_refl _) (fun n hn=>zg dr ck (by omega)) (by rw [Hf dr];omega) _ 0 (by omega) (Nat.zero_le _)]
 rw [show h.d.toNat - sorts.length=0 by omega,wu,zg dr ck (by omega),dl]
 rfl
theorem Zo(hi:i<sorts.length)(c:sorts.getD i 0%4=0):gQ h i=[]∧jd (bf h i)≤256:=by
 have ok:=dr.ok.ks
 have ol:=VD ok.2.1 ok.1 dr.kl (sorts.getD i 0) i
 have o1:Aa h i=1:=by
  unfold Aa
  rw [dr.nd,Zj _ hi]
  exact (ol.2.2 c).2
 have n8:cH h.l i (h.ks.getD 0 0)=(8,8):=by
  rw [dr.nd,KC _ hi]
  exact (ol.2.2 c).1
 have sl:(bf h i).length=h.ps.length:=by simp [bf]
 refine ⟨?_, ?_⟩
 ·have:yh h i=[]:=by
   unfold yh
   refine List.filter_eq_nil_iff.mpr fun col hc=> ?_
   have cl:col.length=h.ps.length:=by
    have:=Ko (bf h i) (bf h i).length (Nat.le_refl _) col (by rw [List.take_length];exact hc)
    omega
   have:nR h i col=false:=List.all_eq_false.mpr ⟨h.ks.getD 0 0,by simp [List.getD,show 0<h.ks.length by have:=dr.kl;omega],by
    unfold Lp
    rw [n8]
    have:=dr.pl.2
    have cc:Ot (h.ks.getD 0 0) col≤7:=by
     unfold Ot
     have:=List.length_filter_le (fun k=>decide (k=h.ks.getD 0 0)) col
     omega
    rw [decide_eq_false (p:=(8:Int)≤_) (by omega)]
    simp⟩
   rw [this];simp
  have p:=mG h i
  rw [this] at p
  exact List.perm_nil.mp p
 ·unfold jd
  refine Nat.le_trans (adB _ 1 fun m hm=> ?_) ?_
  ·rw [vD dr] at hm
   obtain ⟨p,hp,rfl⟩:=List.mem_map.mp hm
   rw [List.length_cons,aoC dr hi hp,o1]
   split<;>omega
  ·rw [sl,Nat.one_mul]
   have:=dr.pl.2
   exact Nat.le_trans (Nat.pow_le_pow_right (by decide) this) (by decide)
theorem Zq(q:oE h sorts i)(hi:i<sorts.length)(c:sorts.getD i 0%4=0):bL h k (i+1)=[]∧j7 h k=i+1∧ ∀n≤i, ¬qN h k n:=by
 have dl:=uD dr
 have cs:=Zo dr hi c
 have pi:=jn (k:=k) dr q (by omega) i (Nat.le_refl _)
 have st:cO h k i (bL h k i)=[]:=by simp [cO,cs.1]
 have pe:bL h k (i+1)=[]:=by
  show uP (cO h k i (bL h k i))=[]
  rw [st,aiF]
 refine ⟨pe,G5 (by omega) (fun j hj=>by rw [jn (k:=k) dr q (by omega) j (by omega)];rfl) (.inr (by rw [pe];rfl)),fun n hn=> ?_⟩
 by_cases g:n=i
 ·subst g
  unfold qN
  rw [st]
  have:=cs.2
  have e:(bwE []).1.length=0:=rfl
  rw [e];omega
 ·exact VJ dr q (by omega) (by omega)
theorem afa(q:oE h sorts i)(hi:i<sorts.length)(c:sorts.getD i 0%4=0):lL h k (lK h k)= .non:=by
 have dl:=uD dr
 obtain ⟨pe,le,nw⟩:=Zq (k:=k) dr q hi c
 have hP: ∀n≤i,(lK h k).getD n []=[EE h k n]:=fun n hn=>by rw [Zm (by omega)];exact jn dr q (by omega) n hn
 have hl:(lK h k).length=i+2:=by rw [VG,le]
 rw [yM dr (hP 0 (Nat.zero_le _)) (by omega),G_ dr q (by omega) hP (by omega) _ 0 (by omega) (Nat.zero_le _)]
 obtain ⟨m,hm⟩: ∃m,h.d.toNat - i=m+1:=⟨h.d.toNat - i - 1,by omega⟩
 have cs:=Zo dr hi c
 have ca:jH h k (lK h k) i=true:=by
  unfold jH
  rw [hl,decide_eq_true cs.2]
  simp [cO,cs.1]
 rw [hm,oA,hP i (Nat.le_refl _),ca]
 have pn:(lK h k).getD (i+1) []=[]:=by rw [Zm (by omega)];exact pe
 show nW h k (lK h k) m (i+1)= .non
 cases m with
 |zero=>rw [wu,pn];rfl
 |succ m=>rw [oA,pn];rfl
theorem atq(q:oE h sorts i)(hi:i<sorts.length)(w:256<qO h (h.ps.map (·.name)) i): ∃n,n<j7 h k∧qN h k n:=by
 have dl:=uD dr
 refine ⟨i,adp (by omega) (fun j hj=>by rw [jn (k:=k) dr q (by omega) j (by omega)];rfl) (by rw [jn (k:=k) dr q (by omega) i (Nat.le_refl _)];rfl), .inl ?_⟩
 rw [vG dr hi];exact w
theorem adG(q:oE h sorts sorts.length):j7 h k=h.d.toNat:=by
 have dl:=uD dr
 exact G5 (Nat.le_refl _) (fun j hj=>by rw [jn (k:=k) dr q (Nat.le_refl _) j (by omega)];rfl) (.inl rfl)
theorem aoG(q:oE h sorts sorts.length){e:En}{rows:List Tx}(le:aaU k (bL h k (j7 h k)) e)(b:acZ h k e rows):e=EE h k h.d.toNat∧rows=jV h:=by
 have dl:=uD dr
 have la:=adG (k:=k) dr q
 have he:=le.1
 rw [la,dl,jn (k:=k) dr q (Nat.le_refl _) _ (Nat.le_refl _)] at he
 have he:=List.mem_singleton.mp he
 refine ⟨by rw [he,dl], ?_⟩
 obtain ⟨rows2,b2,rl,rd,rw2,_⟩:=Zf (h:=h) (k:=k) (j7 h k) e (List.replicate h.ps.length []) le.1 (by simp)
 unfold acZ at b
 rw [b] at b2
 cases b2
 rw [la] at rd rw2
 refine List.ext_getElem (by rw [rl,yJ dr]) fun p h1 h2=> ?_
 have hp:p<h.ps.length:=by omega
 have r1:=rd p hp
 have e1:rows.getD p []=rows[p]:=by simp [List.getD,h1]
 have e2:(List.replicate h.ps.length ([]:Tx)).getD p []=[]:=by simp [List.getD,hp]
 rw [e1,e2] at r1
 have len:rows[p].length=h.d.toNat:=by
  have:=r1.2
  have:=List.drop_eq_nil_iff.mp this
  omega
 have e3:(jV h)[p]=List.replicate h.d.toNat 45:=by simp [jV]
 rw [e3]
 refine List.ext_getElem (by rw [len];simp) fun j h3 h4=> ?_
 rw [List.getElem_replicate]
 have hj:j<h.d.toNat:=by omega
 have c:=(rw2 j hj).1
 rw [VF dr (by omega) (q j (by omega)).1 (q j (by omega)).2] at c
 have c:=List.mem_singleton.mp c
 have z:(oW rows j).getD p 0=45:=by rw [c];simp [mV,List.getD,hp]
 rw [Kv (by omega),e1] at z
 simpa [List.getD,h3] using z
theorem aiG:FQ k (jV h) (jV h).length=wY k (EE h k h.d.toNat):=by
 unfold EE
 exact aiA (yJ dr) fun p hp=>by rw [G9 dr hp];simp
end
end K67
set_option maxHeartbeats 0
namespace K67
open PySem L2 DL
theorem aoH{h:Hs}(ok:okB h):z_ h (pY h):=by
 have dd:=ok.days
 refine ⟨by unfold pY;rw [List.length_map,List.length_range];omega,fun p hp=> ?_⟩
 obtain ⟨d,_,rfl⟩:=List.mem_map.mp hp
 refine ⟨by simp,fun e he=> ?_⟩
 rw [List.mem_singleton.mp he]
 unfold U_
 refine ⟨by simp,by simp,fun t ht=> ?_,fun c hc=> ?_⟩
 ·obtain ⟨q,hq,rfl⟩:=List.mem_map.mp ht
  have a:=Ks (q.past++List.replicate d 45) (jF (jE h q) - 1)
  have b:=Ku ok.rp q
  omega
 ·obtain ⟨q,hq,rfl⟩:=List.mem_map.mp hc
  decide
theorem Zr(z:Tx)(n:Int):fu z n=z.drop ((z.length:Int) - n).toNat:=rfl
theorem Ye(A:Ad): ∀ds Q,ji A ds Q→Ma A { nx:=fun _=>Q .non,rt:=Q } (bM ["_law_house_here","_law_costs_here","e"] ds):=by
 intro ds Q hq
 unfold ji at hq
 split at hq<;>first|exact False.elim hq|skip
 rename_i x c
 obtain ⟨h,k,rfl,rfl,ok,hw,hq⟩:=hq
 unfold Ma
 walk_at "dl0"
 walk_at "tq"
 refine ⟨h,k,rfl,rfl,ok,fun _=> ?_,fun nw=> ?_⟩
 ·refine ⟨by simp [d_],rfl,fun e=> ?_⟩
  simp only [List.set_cons_zero,List.set_cons_succ]
  walk_at "tq"
  refine ⟨true,by simp [aeM], ?_⟩
  walk_at "tq"
  refine ⟨false,by simp [aeM], ?_⟩
  walk_at "tq"
  exact hq
 ·obtain ⟨n,h1,h2⟩:=hw
  exact absurd h2 (nw n h1)
theorem Hg(A:Ad): ∀ds Q,dB A ds Q→wR A { nx:=fun _=>Q .non,rt:=Q } (bM ["_law_house_here","_law_costs_here","_law_reaches","_law_p","_law_pages","_law_day_here","_law_tails","_law_marks"] ds):=by
 intro ds Q hq
 unfold dB at hq
 split at hq<;>first|exact False.elim hq|skip
 rename_i x c
 obtain ⟨h,k,rfl,rfl,⟨ok,okk⟩,hq⟩:=hq
 have dd:=ok.days
 have pl:=ok.pl
 unfold wR
 unfold aJ bA
 walk_at "dl0"
 walk_at "tq"
 rw [List.length_map]
 refine ⟨by simp only [fM];omega,by rw [dM,szl];omega, ?_⟩
 have e:oX 0 h.ps.length=(List.range h.ps.length).map fun (i:Nat)=>D.int (0+(i:Int)):=rfl
 rw [Int.toNat_natCast,e]
 refine fJ (fun (i:Nat)=>D.int (0+(i:Int))) (fun i=> .int (jU h i)) ?_ aG bU ?_
 ·intro i hi Q' hQ
  have hi:=List.mem_range.mp hi
  simp only [eZ,List.set]
  rw [bV]
  walk_at "tq"
  refine aV (by walk_at "dq") ⟨rfl,rfl⟩ ?_
  walk_at "tq"
  refine ⟨h,rfl,ok.rp,h.ps[i],⟨by omega,by simp [hi]⟩, ?_⟩
  walk_at "tq"
  have:jU h i=jF (jE h h.ps[i]) - 1:=by unfold jU;rw [ww hi]
  rw [←this]
  exact hQ
 have e2:(List.range h.ps.length).map (fun i=>D.int (jU h i))=((List.range h.ps.length).map (jU h)).map D.int:=by rw [List.map_map];rfl
 rw [e2]
 walk_at "tq"
 refine ⟨by simp only [fM];omega, ?_⟩
 refine bH (fun i ρ=> ∃(a3 a5 a6 a7:Sl),ρ=[.sh (aJ A h), .sh (eV A k), .sh (.lst (((List.range h.ps.length).map (jU h)).map D.int)),a3, .ow (.lst ((List.range i).map fun d=> .lst [b_ (U_ h d)])),a5,a6,a7]) ⟨.no, .no, .no, .no,rfl⟩ ?_ aG ?_
 ·rintro i x ρ hx ⟨a3,a5,a6,a7,rfl⟩
  obtain ⟨rfl,hi⟩:=jA hx
  rw [bV]
  unfold aJ bA
  walk_at "tq"
  intro nx hnx
  rw [List.length_map,List.length_map,List.length_range]
  refine ⟨by simp only [fM];omega, ?_⟩
  rw [Int.toNat_natCast]
  refine bH (fun j ρ=> ∃(b3 b7:Sl),ρ=[.sh (aJ A h), .sh (eV A k), .sh (.lst (((List.range h.ps.length).map (jU h)).map D.int)),b3, .ow (.lst ((List.range i).map fun d=> .lst [b_ (U_ h d)])), .sh (.int (i:Nat)), .ow (.lst (((List.range j).map fun p=>fu ((prs h p).past++List.replicate i 45) (jU h p)).map D.str)),b7]) ⟨_,_,rfl⟩ ?_ aG ?_
  ·rintro j x ρ hx ⟨b3,b7,rfl⟩
   obtain ⟨rfl,hj⟩:=jA hx
   have hj:j<h.ps.length:=by omega
   rw [bV]
   unfold aJ bA
   walk_at "tq"
   intro nx2 hnx2
   have g1:ixD (h.ps.map (eU A)) (j:Int)=some (eU A h.ps[j]):=by
    rw [rG (by omega) (by rw [List.length_map];omega),List.getElem_map]
    rfl
   rw [g1]
   unfold eU
   walk_at "tq"
   have pp:=ok.pp _ (List.getElem_mem hj)
   refine ⟨⟨by omega,by omega,by decide⟩, ?_⟩
   rw [aht,Int.toNat_natCast]
   walk_at "tq"
   refine ⟨by rw [szl,List.length_replicate];omega, ?_⟩
   rw [aaY (by omega) (by rw [List.length_map,List.length_range];omega)]
   walk_at "tq"
   have lr:=Zr (h.ps[j].past++List.replicate i 45) (jU h j)
   rw [List.length_append,List.length_replicate] at lr
   refine ⟨by rw [List.length_map,List.length_map,List.length_range,szl];omega, ?_⟩
   have e8:cut (h.ps[j].past++List.replicate i 45) (some (if (((h.ps[j].past++List.replicate i 45).length:Nat):Int) - jU h j>0 then (((h.ps[j].past++List.replicate i 45).length:Nat):Int) - jU h j else 0)) none=fu ((prs h j).past++List.replicate i 45) (jU h j):=by
    rw [ww hj,Zr,QK _ (by split<;>omega)]
    congr 1
    split<;>omega
   rw [show ((List.range h.ps.length).map (jU h)).getD (j:Int).toNat 0=jU h j by simp [List.getD,hj],e8]
   refine hnx2 _ ⟨.sh (.int (j:Nat)), .sh (.str (h.ps[j].past++List.replicate i 45)), ?_⟩
   rw [List.range_succ,List.map_append,List.map_append]
   rfl
  rintro ρ ⟨b3,b7,rfl⟩
  rw [dM]
  walk_at "tq"
  refine ⟨by rw [List.length_map,List.length_map,List.length_range,szl];omega, ?_⟩
  refine fJ D.int (fun _=>D.int 0) ?_ aG bU ?_
  ·intro n _ Q' hQ
   simp only [eZ,List.set]
   walk_at "tq"
   exact hQ
  have e3:((List.range h.ps.length).map (jU h)).map (fun _=>D.int 0)=(h.ps.map fun _=>(0:Int)).map D.int:=by
   rw [List.map_map,List.map_map]
   refine List.ext_getElem (by simp) fun a h1 h2=>by simp
  rw [e3]
  have e4:(List.range h.ps.length).map (fun p=>fu ((prs h p).past++List.replicate i 45) (jU h p))=h.ps.map fun p=>fu (p.past++List.replicate i 45) (jF (jE h p) - 1):=by
   refine List.ext_getElem (by simp) fun a h1 h2=> ?_
   have ha:a<h.ps.length:=by simpa using h2
   simp only [List.getElem_map,List.getElem_range]
   unfold jU
   rw [ww ha]
  rw [e4]
  walk_at "tq"
  refine ⟨by rw [List.length_map,List.length_range,szl];omega,hnx _ ⟨b3, .sh (.int (i:Nat)), .ow (.lst ((h.ps.map fun p=>fu (p.past++List.replicate i 45) (jF (jE h p) - 1)).map D.str)),b7, ?_⟩⟩
  rw [List.range_succ,List.map_append]
  rfl
 rintro ρ ⟨a3,a5,a6,a7,rfl⟩
 rw [dM,show (h.d+1).toNat=h.d.toNat+1 by omega]
 walk_at "tq"
 refine ⟨pY h,by unfold pY;rw [List.map_map];rfl,by unfold pY;rw [List.length_map,List.length_range];omega, ?_⟩
 have e5:D.lst ((List.range (h.d.toNat+1)).map fun d=>D.lst [b_ (U_ h d)])= .lst ((pY h).map fun p=> .lst (p.map b_)):=by unfold pY;rw [List.map_map];rfl
 rw [e5]
 refine aV (S:=jP A) (by walk_at "dq") ⟨rfl,rfl⟩ ?_
 walk_at "tq"
 refine ⟨h,k,pY h,rfl,rfl,rfl,⟨ok,okk,aoH ok⟩,hq⟩
end K67
set_option maxHeartbeats 0
namespace K67
open PySem L2 DL
theorem aiH(l:List Tx):(l.map D.str).all m_=true:=by
 rw [List.all_eq_true]
 intro x hx
 obtain ⟨a,_,rfl⟩:=List.mem_map.mp hx
 rfl
theorem Ue(l:List Tx):bu (.lst (l.map D.str))=true∧fL (.lst (l.map D.str))≤60:=by
 have h1:eY (l.map D.str)=true:=pB fun x hx=>by obtain ⟨t,_,rfl⟩:=List.mem_map.mp hx;rfl
 have h2:jT (l.map D.str)≤1:=vC fun x hx=>by obtain ⟨t,_,rfl⟩:=List.mem_map.mp hx;simp [fL]
 simp only [bu,fL,h1]
 exact ⟨trivial,by omega⟩
theorem adH: ∀(l:List Tx) (f:List Tx) (c:Tx),c∈f→(∀m∈l,45∈m)→c++List.replicate l.length 45∈l.foldl qM f
 |[],f,c,hc,_=>by simpa using hc
 |m::l,f,c,hc,h=>by
  rw [List.foldl_cons,List.length_cons,List.replicate_succ,show c++45::List.replicate l.length 45=(c++[45])++List.replicate l.length 45 by simp]
  exact adH l _ _ (List.mem_flatMap.mpr ⟨c,hc,List.mem_map.mpr ⟨45,h m List.mem_cons_self,rfl⟩⟩) fun x hx=>h x (List.mem_cons_of_mem _ hx)
theorem aoI{h:Hs}{sorts:List Int}{n:Nat}(dr:yq h sorts):mV h∈nQ (bf h n):=by
 have:=adH (bf h n) [[]] [] (List.mem_singleton.mpr rfl) fun m hm=>by
  rw [vD dr] at hm
  obtain ⟨q,_,rfl⟩:=List.mem_map.mp hm
  exact List.mem_cons_self
 rw [List.nil_append,show (bf h n).length=h.ps.length by simp [bf]] at this
 exact this
def ahA(A:Ad):DS:=aR (bW (cJ (lB A) (aj (aA 0) (aj (aA 4) (aj (aA 2) (aj (aA 3) (aF)))))) (dgN 7))<|
 aR (bW (cJ (lC A) (aj (aA 0) (aj (aA 7) (aF)))) (dgN 8))<|
 aR (jr (jY (aj (bR jw (aj (aq 4) (aF))) (aF))) (dgN 9)
 (aR (bW (cJ (jh A) (aj (aA 7) (aj (aA 3) (aj (aA 9) (aj (aX (fun C=>C∈([A.cHouse]:List Addr)) (aq 7) "leave") (aF)))))) (dgN 10))<|
 aR (fX (cW (dOp dEq (dOp mX (dOp dIx (aq 4) (aq 9)) (dC (.int 4))) (dC (.int 0))))
 (aR (bW (o5 (cC A) (aj (aA 7) (aj (aA 8) (aF))) noX) (dgN 11))<|
 bY (xF (bR (Ug (aaL A)) (aj (aq 11) (aj (dC (.fn A.cWithout)) (aF)))) (dOp (Hr false) (gj (qY A) "floor" (aX (fun C=>C∈([A.cFound,A.cWithout]:List Addr)) (aq 11) "paper") (aj (aA 7) (aj (aA 8) (aF)))) (dC .non))))
 (cX))<|
 aR (fX (cW (dOp dGt (aq 10) (dC (.int 256))))
 (bY (xF (cJ (ji A) (aj (aA 7) (aj (aA 8) (aF)))) (dOp dEq (cJ (dB A) (aj (aA 7) (aj (aA 8) (aF)))) (dC (.int 0)))))
 (cX))<|
 fX (cW (dOp dGt (aq 10) (dC (.int 1))))
 (bY (dOp (dIn false) (dOp zU (dC (.str [45])) (bR jw (aj (aq 3) (aF)))) (o5 (jD A) (aj (aA 7) (aj (aA 9) (aF))) noX)))
 (cX)))<|
 aR (bW (o5 (cC A) (aj (aA 7) (aj (aA 8) (aF))) noX) (dgN 11))<|
 aR (fX (V5 (Qs (cW (bR (Ug (aaL A)) (aj (aq 11) (aj (dC (.fn A.cFound)) (aF)))))) (cW (dOp dNe (aX (fun C=>C∈([A.cChangeCosts,A.cFound]:List Addr)) (aq 11) "rota") (dLc [12] (dIt (aA 3)) (dgN 12) (kZ) (dOp zU (dC (.str [45])) (bR jw (aj (aq 4) (aF))))))))
 (bY (dC (.bl false)))
 (cX))<|
 aR (bW (cJ (dB A) (aj (aA 7) (aj (aA 8) (aF)))) (dgN 13))<|
 bY (xF (dOp dEq (aX (fun C=>C∈([A.cFound]:List Addr)) (aq 11) "total") (cJ (jk A) (aj (aA 7) (aj (aA 8) (aj (aX (fun C=>C∈([A.cChangeCosts,A.cFound]:List Addr)) (aq 11) "rota") (aF)))))) (dOp dEq (aq 13) (aX (fun C=>C∈([A.cFound]:List Addr)) (aq 11) "total")))
theorem adI(A:Ad){Q:D→Prop}(hq:Q (.bl true)){ns so:List Int}{ks:Tx}{nms:List Tx}{c:Int}{a5 a6:Sl}(k0:1≤ks.length∧ks.length≤4)(kn:ks.Nodup)(k45:45∉ks)(k63:63∉ks)(n0:4≤nms.length∧nms.length≤7)(nd:nms.Nodup)(n8: ∀t∈nms,t.length≤8)(s0:1≤so.length∧so.length≤10):ahA A { nx:=fun _=>Q .non,rt:=Q } [.sh (iK ns), .sh (.int c), .sh (.str ks), .sh (cR nms), .sh (iK so),a5,a6, .no, .no, .no, .no, .no, .no, .no]:=by
 unfold ahA
 walk_at "tq"
 refine ⟨ns,so,nms,rfl,rfl,rfl,⟨s0,⟨k0.1,k0.2,kn,k45,k63⟩,n0.1,n0.2,nd,n8⟩, ?_⟩
 intro h dr hk hn
 walk_at "tq"
 refine ⟨ns,h,so,rfl,rfl,dr, ?_⟩
 intro k okk mz
 have mz:adF h k:=mz
 have dl:=uD dr
 have ok:=dr.ok
 walk_at "tq"
 rw [List.length_map]
 refine ⟨by simp only [fM];omega, ?_⟩
 refine bH (fun i ρ=> ∃(a5 a6 a9 a10:Sl),ρ=[.sh (iK ns), .sh (.int c), .sh (.str ks), .sh (cR nms), .sh (iK so),a5,a6, .sh (aJ A h), .sh (eV A k),a9,a10, .no, .no, .no]∧oE h so i) ⟨a5,a6, .no, .no,rfl,fun j hj=>absurd hj (Nat.not_lt_zero _)⟩ ?_ aG ?_
 ·rintro i x ρ hx ⟨a5,a6,a9,a10,rfl,q⟩
  obtain ⟨rfl,hi⟩:=jA hx
  have hi:i<so.length:=by simpa using hi
  rw [bV]
  unfold aJ bA
  walk_at "tq"
  intro nx hnx
  refine ⟨h,nms,rfl,rfl,rfl,⟨n0.2,ok.nl,ok.ll⟩, ?_⟩
  walk_at "tq"
  rw [aaY (cs:=so) (p:=(i:Int)) (by omega) (by omega),Int.toNat_natCast]
  walk_at "tq"
  refine ⟨by decide, ?_⟩
  refine cV (fun g=> ?_) (fun g=> ?_)
  ·obtain ⟨pe,ll,nw⟩:=Zq (k:=k) dr q hi g
   have fl:=afa (k:=k) dr q hi g
   have okp:z_ h (lK h k):=⟨by rw [VG];omega,fun p hp=>by
    obtain ⟨n,hn,rfl⟩:=List.mem_map.mp hp
    have hn:=List.mem_range.mp hn
    exact Vx ok n fun j hj=>nw j (by omega)⟩
   walk_at "tq"
   refine ⟨h,k,rfl,rfl,⟨ok,okk⟩,fun ⟨n,hn,hw⟩=>absurd hw (nw n (by omega)),fun _=>⟨fun _=> ?_,fun e rows2 le bk=> ?_⟩⟩
   ·unfold rZ Gf nU
    walk_at "tq"
    refine ⟨true,by simp [aaL], ?_⟩
    walk_at "tq"
    refine aV (by rfl) ⟨rfl,rfl⟩ ?_
    walk_at "tq"
    refine ⟨h,k,lK h k,rfl,rfl,rfl,⟨ok,okk,okp⟩, ?_⟩
    rw [fl]
    walk_at "tq"
    exact hq
   ·have:=le.1
    rw [ll,pe] at this
    exact absurd this List.not_mem_nil
  ·walk_at "tq"
   refine cV (fun g2=> ?_) (fun g2=> ?_)
   ·have g2:256<qO h (h.ps.map (·.name)) i:=by rw [hn];omega
    walk_at "tq"
    refine ⟨h,k,rfl,rfl,⟨ok,okk⟩,atq dr q hi g2, ?_⟩
    walk_at "tq"
    refine ⟨h,k,rfl,rfl,⟨ok,okk⟩, ?_⟩
    rw [ae9 dr mz q hi g2]
    walk_at "tq"
    exact hq
   ·walk_at "tq"
    refine cV (fun g3=> ?_) (fun g3=> ?_)
    ·walk_at "tq"
     rw [List.length_map]
     refine ⟨⟨by omega,by omega,by decide⟩,h,rfl,ok,fun w=> ?_,fun _=> ?_⟩
     ·rw [vG dr hi,hn] at w
      omega
     rw [Int.toNat_natCast,aht]
     have mem:List.replicate nms.length 45∈gQ h i:=by
      refine (mG h i).mem_iff.mpr ?_
      have e:List.replicate nms.length 45=mV h:=by unfold mV;rw [←hn,List.length_map]
      rw [e]
      unfold yh
      refine List.mem_filter.mpr ⟨aoI dr,ahy dr hi g⟩
     walk_at "tq"
     refine ⟨aiH _, ?_⟩
     have an:((gQ h i).map D.str).any (fun y=>eqD y (.str (List.replicate nms.length 45)))=true:=List.any_eq_true.mpr ⟨_,List.mem_map.mpr ⟨_,mem,rfl⟩,Qq rfl⟩
     rw [if_neg Bool.false_ne_true,an]
     exact hq
    ·walk_at "tq"
     refine hnx _ ⟨_,_,_,_,rfl,fun j hj=> ?_⟩
     by_cases e:j<i
     ·exact q j e
     ·have:j=i:=by omega
      subst this
      exact ⟨by rw [hn];omega,g⟩
 rintro ρ ⟨a5,a6,a9,a10,rfl,q⟩
 rw [dM,Int.toNat_natCast] at q
 have la:=adG (k:=k) dr q
 unfold aJ bA
 walk_at "tq"
 refine ⟨h,k,rfl,rfl,⟨ok,okk⟩,fun ⟨n,hn,hw⟩=>absurd hw (VJ dr q (Nat.le_refl _) (by omega)),fun _=>⟨fun pe=> ?_,fun e rows2 le bk=> ?_⟩⟩
 ·rw [la,jn (k:=k) dr q (Nat.le_refl _) _ (by omega)] at pe
  cases pe
 obtain ⟨rfl,rfl⟩:=aoG dr q le bk
 unfold Ka Gf nU
 walk_at "tq"
 refine ⟨true,by simp [aaL], ?_⟩
 walk_at "tq"
 refine ⟨by rw [List.length_map,szl];omega, ?_⟩
 refine fJ D.str (fun _=>D.str (List.replicate so.length 45)) ?_ aG bU ?_
 ·intro nm _ Q' hQ
  simp only [eZ,List.set]
  walk_at "tq"
  rw [List.length_map,Int.toNat_natCast,aht]
  exact ⟨⟨by omega,by omega,by decide⟩,hQ⟩
 have e10:nms.map (fun _=>D.str (List.replicate so.length 45))=(jV h).map D.str:=by
  refine List.ext_getElem (by rw [←hn];simp [jV]) fun a h1 h2=> ?_
  simp [jV,dl]
 rw [e10]
 have pd:=Ue (jV h)
 walk_at "tq"
 refine ⟨pd,pd, ?_⟩
 rw [Qq rfl]
 walk_at "tq"
 refine ⟨h,k,rfl,rfl,⟨ok,okk⟩, ?_⟩
 rw [ae_ dr mz q]
 walk_at "tq"
 refine ⟨_,_,_,_,_,_,_,_,k,jV h,rfl,rfl,rfl,⟨⟨by rw [yJ dr];have:=ok.pl;omega,by have:=ok.days;omega,by have:=ok.days;omega,fun r hr=> ?_⟩,by rw [yJ dr];exact okk⟩, ?_⟩
 ·unfold jV at hr
  rw [(List.mem_replicate.mp hr).2,List.length_replicate]
 rw [aiG dr]
 walk_at "tq"
 exact hq
theorem aiI(A:Ad){Q:D→Prop}(ns:List Int)(ks:Tx)(nms:List Tx)(c:Int)(ds:List Int){a6:Sl}{so:D}(dl:ds.length≤100)(h:ahA A { nx:=fun _=>Q .non,rt:=Q } [.sh (iK ns), .sh (.int c), .sh (.str ks), .sh (cR nms), .sh (iK (ds++[3])), .no,a6, .no, .no, .no, .no, .no, .no, .no]):
  ajq (avP fH (iW (aj (dC (.int 3)) aF)) [.sh (iK ns), .sh (.int c), .sh (.str ks), .sh (cR nms), .sh so, .no,a6, .no, .no, .no, .no, .no, .no, .no] (avT (dgN 4) [.sh (iK ns), .sh (.int c), .sh (.str ks), .sh (cR nms), .sh so, .no,a6, .no, .no, .no, .no, .no, .no, .no] { nx:=ahA A { nx:=fun _=>Q .non,rt:=Q },rt:=Q })) (ds.map D.int):=by
 walk_at "tq"
 unfold iK at h
 rw [List.map_append] at h
 exact ⟨by rw [List.length_map,szl];simp;omega,h⟩
theorem atr(A:Ad): ∀ds Q,ac1 A ds Q→avk A { nx:=fun _=>Q .non,rt:=Q } (bM ["_law_script","_law_cell","_law_kinds_here","_law_names_here","_law_sorts","_law_k","_law_number","_law_house_here","_law_costs_here","_law_day_here","_law_ways","_law_answer","_law_name","_law_floor"] ds):=by
 intro ds Q hq
 unfold ac1 pN at hq
 split at hq<;>first|exact False.elim hq|skip
 rename_i xs
 split at hq<;>first|exact False.elim hq|skip
 rename_i ns hns
 obtain ⟨hl,hq⟩:=hq
 have hns:=QF hns
 subst hns
 unfold avk
 walk_at "dl0"
 walk_at "tq"
 refine ⟨ns,rfl,by decide, ?_⟩
 walk_at "tq"
 refine ⟨ns,rfl,by decide, ?_⟩
 walk_at "tq"
 generalize ns.getD (Int.toNat 0) 0=c
 generalize ns.getD (Int.toNat 1) 0=c1
 refine ⟨by decide,⟨by omega,by omega⟩, ?_⟩
 intro ks kl kn k45 k63
 walk_at "tq"
 refine ⟨ns,rfl,by decide, ?_⟩
 walk_at "tq"
 refine ⟨⟨by decide,by decide⟩,by decide,⟨by omega,by omega⟩, ?_⟩
 intro nms nl nd n8
 refine ⟨⟨by decide,by decide⟩,by decide,by simp only [fM];omega,by rw [dM,szl];omega, ?_⟩
 obtain ⟨m,hm,m1,m10⟩: ∃m:Nat,(1+c / 32%10).toNat=m∧1≤m∧m≤10:=⟨_,rfl,by omega,by omega⟩
 rw [hm]
 have e:oX 0 m=(List.range m).map fun (i:Nat)=>D.int (0+(i:Int)):=rfl
 rw [e]
 refine fJ (fun (i:Nat)=>D.int (0+(i:Int))) (fun i=> .int (ns.getD (4+i) 0)) ?_ aG bU ?_
 ·intro i hi Q' hQ
  simp only [eZ,List.set]
  rw [bV]
  walk_at "tq"
  refine ⟨ns,rfl,by omega, ?_⟩
  rw [show ((4:Int)+(i:Int)).toNat=4+i by omega]
  walk_at "tq"
  exact hQ
 have e2:(List.range m).map (fun i=>D.int (ns.getD (4+i) 0))=((List.range m).map fun i=>ns.getD (4+i) 0).map D.int:=by rw [List.map_map];rfl
 rw [e2]
 have sl:((List.range m).map fun i=>ns.getD (4+i) 0).length=m:=by simp
 generalize (List.range m).map (fun i=>ns.getD (4+i) 0)=so at sl
 walk_at "tq"
 refine ⟨⟨by decide,by decide⟩,by decide, ?_⟩
 have n1:4≤nms.length∧nms.length≤7:=⟨by omega,by omega⟩
 refine cV (fun g=> ?_) (fun g=> ?_)
 ·walk_at "tq"
  refine ⟨by have:=vL (so.map D.int) none (some (-1));rw [List.length_map] at this;rw [szl];omega, ?_⟩
  have ec:cut (so.map D.int) none (some (-1))=(cut so none (some (-1))).map D.int:=by
   unfold cut
   rw [List.length_map, ←List.map_drop, ←List.map_take]
  have cl:(cut so none (some (-1))).length=so.length - 1:=by
   unfold cut
   simp only [HT.sIx,if_pos (show (-1:Int)<0 by decide)]
   rw [List.length_take,List.length_drop]
   omega
  rw [ec]
  generalize cut so none (some (-1))=cs at cl
  refine fJ D.int (fun x=>match x with|n=>D.int (1+n%4%3)) ?_ aG bU ?_
  ·intro n _ Q' hQ
   simp only [eZ,List.set]
   walk_at "tq"
   exact ⟨by decide,by decide,hQ⟩
  have e9:cs.map (fun n=>D.int (1+n%4%3))=(cs.map fun n=>1+n%4%3).map D.int:=by rw [List.map_map];rfl
  show ajq _ (cs.map fun n=>D.int (1+n%4%3))
  rw [e9]
  have cl2:(cs.map fun n=>1+n%4%3).length=so.length - 1:=by rw [List.length_map,cl]
  generalize (cs.map fun n=>1+n%4%3)=ds at cl2
  have e11:ds.map D.int++[D.int 3]=(ds++[3]).map D.int:=by rw [List.map_append];rfl
  refine aiI A ns ks nms c ds (by omega) ?_
  exact adI A hq ⟨by omega,by omega⟩ kn k45 k63 n1 nd n8 ⟨by simp,by simp;omega⟩
 ·walk_at "tq"
  exact adI A hq ⟨by omega,by omega⟩ kn k45 k63 n1 nd n8 ⟨by omega,by omega⟩
end K67
set_option maxHeartbeats 0
namespace K67
open PySem L2 DL
def aFN:D→Bool
 | .int _=>true
 | .str _=>true
 |_=>false
end K67
end
section
set_option maxHeartbeats 0
set_option maxHeartbeats 0
set_option hygiene false
local macro_rules| `(tactic|walk_at "ln")=> `(tactic|split at h<;>first|rfl|exact False.elim h)
set_option hygiene true
local macro_rules| `(tactic|walk_at "b1")=> `(tactic|exact fun _ _ _ _ _ _ us hl=>match us,hl with|[_],_=>rfl)
local macro_rules| `(tactic|walk_at "b2")=> `(tactic|exact fun _ _ _ _ _ _ us hl=>match us,hl with|[_,_],_=>rfl)
local macro_rules| `(tactic|walk_at "b3")=> `(tactic|exact fun _ _ _ _ _ _ us hl=>match us,hl with|[_,_,_],_=>rfl)
local macro_rules| `(tactic|walk_at "b4")=> `(tactic|exact fun _ _ _ _ _ _ us hl=>match us,hl with|[_,_,_,_],_=>rfl)
local macro_rules| `(tactic|walk_at "b5")=> `(tactic|exact fun _ _ _ _ _ _ us hl=>match us,hl with|[_,_,_,_,_],_=>rfl)
local macro_rules| `(tactic|walk_at "b6")=> `(tactic|exact fun _ _ _ _ _ _ us hl=>match us,hl with|[_,_,_,_,_,_],_=>rfl)
local macro_rules| `(tactic|walk_at "b9")=> `(tactic|exact fun _ _ _ _ _ _ us hl=>match us,hl with|[_,_,_,_,_,_,_,_,_],_=>rfl)
namespace K67
open PySem L2 DL
section
variable{P:Program}{w:World}{K:PySem.W.Frag}{mg:Str→Option Value}{base:Heap}{A:Ad}[bG](T:Txt K mg A)
include T
theorem t8:OkD P w K mg base CX0 tQ "of_count" "Costs.of_count" 1 (bZ K (fQ A)):=
 iG (k:=0) tQ (by intro ds P h;unfold fQ at h;walk_at "ln") (Cd A) fun nd hu hv hr=>(az (aU aD))
theorem vH:OkD P w K mg base CX0 uW "of_mark" "Costs.of_mark" 1 (bZ K (gJ A)):=
 iG (k:=0) uW (by intro ds P h;unfold gJ at h;walk_at "ln") (GF A) fun nd hu hv hr=>(az (aU aD))
theorem xf:OkD P w K mg base CX0 oM "of_count" "EvenCosts.of_count" 1 (bZ K (eE A)):=
 iG (k:=0) oM (by intro ds P h;unfold eE at h;walk_at "ln") (v8 A) fun nd hu hv hr=>(az (aU (apm (lb (aK (ak (pv 0)) T.anR)) (lb (apn (lb (bQ (lb (bj (lb (aK (ak (pv 0)) T.uO)) (ak (pv 1)))) (ak (pv 2)))) (lb aD))))))
theorem yO:OkD P w K mg base CX0 p_ "of_mark" "EvenCosts.of_mark" 1 (bZ K (fB A)):=
 iG (k:=0) p_ (by intro ds P h;unfold fB at h;walk_at "ln") (w6 A) fun nd hu hv hr=>(au (aW (fun _ h=>ps_set (i:=4) nd rfl (Or.inl rfl) h) aP aD)
 (au (dw PassesOwn.never rfl (cZ (aK (ak (pv 0)) T.U6)) (pg_tup rfl (pgs_cons (pg_name (i:=5) nd rfl (Or.inl rfl)) (pgs_cons (pg_name (i:=6) nd rfl (Or.inl rfl)) (pgs_cons (pg_name (i:=7) nd rfl (Or.inl rfl)) pgs_nil)))) (ql (aQ (aP (i:=5)) (aQ (aP (i:=6)) (aQ (aP (i:=7)) dZ))))
 (az (dG (iV (qj (cG (lD hu) (ak (pv 5)) (ak (pv 1))) (qj (cG (lD hu) (ak (pv 6)) (ak (pv 2))) (mY (cG afr (ak (pv 3)) (ak (pv 7)))))))
 (az (aW (fun _ h=>ps_set (i:=4) nd rfl (Or.inl rfl) h) aP (bQ (ak (pv 4)) (lb aD))))
 bF)))
 (az (aU (ao (pv 4))))))
theorem vI:OkD P w K mg base CX0 mU "__init__" "ChangeCosts.__init__" 1 (j5 K A.cChangeCosts (g_ A)):=
 aaJ (k:=0) mU (by intro ds P h;unfold g_ at h;walk_at "ln") (uC A) fun nd hu hv hr=>(qT (d7 (pv 0) (lE vN (by rfl) T.g_list (by decide+kernel) (aH (ak (pv 2)) aO)) T.cl_ChangeCosts T.n_ChangeCosts_rota))
theorem wz:OkD P w K mg base CX0 nZ "of_mark" "ChangeCosts.of_mark" 1 (bZ K (dR A)):=
 iG (k:=0) nZ (by intro ds P h;unfold dR at h;walk_at "ln") (vh A) fun nd hu hv hr=>(au (dG (cG (lD hu) (lb (bj (lb (bj (lb (aK (ak (pv 0)) T.aeP)) (ak (pv 1)))) (ak (pv 2)))) (ak (pv 3)))
 (az (aU aD))
 bF)
 (az (aU aD)))
theorem wA:OkD P w K mg base CX0 n_ "__init__" "LevelCosts.__init__" 1 (j5 K A.cLevelCosts (jc A)):=
 aaJ (k:=0) n_ (by intro ds P h;unfold jc at h;walk_at "ln") (vo A) fun nd hu hv hr=>(gK (d7 (pv 0) (jZ (own:=[("person",3)]) rfl nd (cZ (aK (ak (pv 1)) T.dI)) (blkOk_by (N:=["self","house","level","person"]) (sc:=defScope jX) (by decide+kernel)) (fun _ _ _ _ _=>(pg_name (i:=3) nd rfl (Or.inl rfl))) (aP (i:=3)) (by decide) (fun _ _ _ _ _=>dF) (fun _ _ _ _ _=>(aK (ak (pv 3)) T.uO))) T.cl_LevelCosts T.n_LevelCosts_carried) (qT (d7 (pv 0) (ao (pv 2)) T.cl_LevelCosts T.n_LevelCosts_level)))
theorem wB:OkD P w K mg base CX0 ou "of_count" "LevelCosts.of_count" 1 (bZ K (dU A)):=
 iG (k:=0) ou (by intro ds P h;unfold dU at h;walk_at "ln") (vm A) fun nd hu hv hr=>(az (aU (cP (adU rfl) (by rfl) T.g_max (by decide+kernel) (aH (lb aD) (aH (lb (xK (lb (bQ (lb (bj (lb (aK (ak (pv 0)) T.uO)) (ak (pv 1)))) (ak (pv 2)))) (lb (aK (ak (pv 0)) T.as8)))) aO)))))
theorem Pq:OkD P w K mg base CX0 wM "skill_faults" "skill_faults" 1 (bZ K (fY A)):=
 iG (k:=0) wM (by intro ds P h;unfold fY at h;walk_at "ln") (Kh A) fun nd hu hv hr=>(au (jO (i:=3) (fun _ h=>ps_set (i:=3) nd rfl (Or.inl rfl) h) (l_ aC))
 (au (dw PassesOwn.never rfl (Qx (by rfl) T.g_zip (aa (aK (ak (pv 0)) T.dI) (aa (ao (pv 1)) aC))) (pg_tup rfl (pgs_cons (pg_name (i:=4) nd rfl (Or.inl rfl)) (pgs_cons (pg_name (i:=5) nd rfl (Or.inl rfl)) pgs_nil))) (ql (aQ (aP (i:=4)) (aQ (aP (i:=5)) dZ)))
 (az (dG (iV (qj (cG (Qz hu) (lb (bj (ak (pv 5)) (ak (pv 2)))) (lb (cY (l:=[45]) (by decide+kernel) (by decide+kernel)))) (mY (cG afr (lb (bj (ak (pv 5)) (ak (pv 2)))) (lb (aK (ak (pv 4)) T.acR))))))
 (az (mj (i:=3) (pv 3) (dN (aa (ao (pv 2)) (aa (cY (l:=[115,107,105,108,108]) (by decide+kernel) (by decide+kernel)) (aa (aK (ak (pv 4)) T.yd) (aa (bj (ak (pv 5)) (ak (pv 2))) aC))))) (fun _ h=>pe_bm PySem.F.plainAttrs_list PySem.F.slot_list_append PySem.F.type_list_append mt_append (pv 3) (pa_cons h pa_nil))))
 bF)))
 (lQ (i:=3) (az (aU (ao (pv 3)))))))
theorem Pu:OkD P w K mg base CX0 wN "leave_faults" "leave_faults" 1 (bZ K (fZ A)):=
 iG (k:=0) wN (by intro ds P h;unfold fZ at h;walk_at "ln") (Kl A) fun nd hu hv hr=>(au (jO (i:=3) (fun _ h=>ps_set (i:=3) nd rfl (Or.inl rfl) h) (l_ aC))
 (au (dw PassesOwn.never rfl (Qx (by rfl) T.g_zip (aa (aK (ak (pv 0)) T.dI) (aa (ao (pv 1)) aC))) (pg_tup rfl (pgs_cons (pg_name (i:=4) nd rfl (Or.inl rfl)) (pgs_cons (pg_name (i:=5) nd rfl (Or.inl rfl)) pgs_nil))) (ql (aQ (aP (i:=4)) (aQ (aP (i:=5)) dZ)))
 (az (dG (iV (qj (cG (Qz hu) (lb (bj (ak (pv 5)) (ak (pv 2)))) (lb (cY (l:=[45]) (by decide+kernel) (by decide+kernel)))) (mY (cG (atD hv) (lb (dN (aa (aK (ak (pv 4)) T.yd) (aa (ao (pv 2)) aC)))) (lb (aK (ak (pv 0)) T.aaN))))))
 (az (mj (i:=3) (pv 3) (dN (aa (ao (pv 2)) (aa (cY (l:=[108,101,97,118,101]) (by decide+kernel) (by decide+kernel)) (aa (aK (ak (pv 4)) T.yd) (aa (bj (ak (pv 5)) (ak (pv 2))) aC))))) (fun _ h=>pe_bm PySem.F.plainAttrs_list PySem.F.slot_list_append PySem.F.type_list_append mt_append (pv 3) (pa_cons h pa_nil))))
 bF)))
 (lQ (i:=3) (az (aU (ao (pv 3)))))))
theorem VL:OkD P w K mg base CX0 yu "most_faults" "most_faults" 1 (bZ K (h_ A)):=
 iG (k:=0) yu (by intro ds P h;unfold h_ at h;walk_at "ln") (O_ A) fun nd hu hv hr=>(au (jO (i:=3) (fun _ h=>ps_set (i:=3) nd rfl (Or.inl rfl) h) (l_ aC))
 (au (dw PassesOwn.never rfl (Qx (by rfl) T.g_zip (aa (aK (ak (pv 0)) T.dI) (aa (ao (pv 1)) aC))) (pg_tup rfl (pgs_cons (pg_name (i:=4) nd rfl (Or.inl rfl)) (pgs_cons (pg_name (i:=5) nd rfl (Or.inl rfl)) pgs_nil))) (ql (aQ (aP (i:=4)) (aQ (aP (i:=5)) dZ)))
 (au (aW (fun _ h=>ps_set (i:=6) nd rfl (Or.inl rfl) h) aP (cP gM (by rfl) T.g_len (by decide+kernel) (aH (lb (jZ (own:=[("mark",7)]) rfl nd (cZ (zP (ak (pv 5)) qR (m7 (bQ (ak (pv 2)) (lb aD))))) (blkOk_by (N:=["house","rota","day","found","person","row","many","mark"]) (sc:=defScope ux) (by decide+kernel)) (fun _ _ _ _ _=>(pg_name (i:=7) nd rfl (Or.inl rfl))) (aP (i:=7)) (by decide) (fun _ _ _ _ _=>Px (cG (Qz hu) (ak (pv 7)) (lb (cY (l:=[45]) (by decide+kernel) (by decide+kernel))))) (fun _ _ _ _ _=>(ao (pv 7))))) aO)))
 (az (dG (iV (qj (cG (Qz hu) (lb (bj (ak (pv 5)) (ak (pv 2)))) (lb (cY (l:=[45]) (by decide+kernel) (by decide+kernel)))) (mY (cG V6 (ak (pv 6)) (lb (aK (ak (pv 4)) T.aaO))))))
 (az (mj (i:=3) (pv 3) (dN (aa (ao (pv 2)) (aa (cY (l:=[109,111,115,116]) (by decide+kernel) (by decide+kernel)) (aa (aK (ak (pv 4)) T.yd) (aa (ao (pv 6)) aC))))) (fun _ h=>pe_bm PySem.F.plainAttrs_list PySem.F.slot_list_append PySem.F.type_list_append mt_append (pv 3) (pa_cons h pa_nil))))
 bF))))
 (lQ (i:=3) (az (aU (ao (pv 3)))))))
theorem Hh:OkD P w K mg base CX0 tR "__init__" "Found.__init__" 1 (j5 K A.cFound (qW A)):=
 aaJ (k:=0) tR (by intro ds P h;unfold qW at h;walk_at "ln") (Cq A) fun nd hu hv hr=>(gK (d7 (pv 0) (lE vN (by rfl) T.g_list (by decide+kernel) (aH (ak (pv 1)) aO)) T.cl_Found T.n_Found_rota) (gK (d7 (pv 0) (ao (pv 2)) T.cl_Found T.n_Found_total) (qT (d7 (pv 0) (ao (pv 3)) T.cl_Found T.n_Found_paper))))
theorem zN:OkD P w K mg base CX0 qQ "__init__" "Without.__init__" 1 (j5 K A.cWithout (lw A)):=
 aaJ (k:=0) qQ (by intro ds P h;unfold lw at h;walk_at "ln") (yI A) fun nd hu hv hr=>(qT (d7 (pv 0) (ao (pv 1)) T.cl_Without T.n_Without_paper))
theorem atu:OkD P w K mg base CX0 ag9 "fits" "fits" 1 (bZ K (yf A)):=
 iG (k:=0) ag9 (by intro ds P h;unfold yf at h;walk_at "ln") (an4 A) fun nd hu hv hr=>(au (dG (cG (lD hu) (ak (pv 0)) (lb (cY (l:=[63]) (by decide+kernel) (by decide+kernel))))
 (az (aU qZ))
 bF)
 (au (dG (cG (lD hu) (ak (pv 0)) (lb (cY (l:=[35]) (by decide+kernel) (by decide+kernel))))
 (az (aU (sW (Qz hu) (ak (pv 1)) (lb (cY (l:=[45]) (by decide+kernel) (by decide+kernel))))))
 bF)
 (az (aU (sW (lD hu) (ak (pv 0)) (ak (pv 1)))))))
theorem afb:OkD P w K mg base CX0 Vf "last_of" "last_of" 1 (bZ K (iU A)):=
 iG (k:=0) Vf (by intro ds P h;unfold iU at h;walk_at "ln") (ade A) fun nd hu hv hr=>(az (aU (zP (ak (pv 0)) (m7 (cP (adU rfl) (by rfl) T.g_max (by decide+kernel) (aH (lb aD) (aH (lb (xK (lb (cP gM (by rfl) T.g_len (by decide+kernel) (aH (ak (pv 0)) aO))) (ak (pv 1)))) aO)))) qR)))
theorem Hi:OkD P w K mg base CX0 tU "__init__" "Never.__init__" 1 (j5 K A.cNever (tM A)):=
 aaJ (k:=0) tU (by intro ds P h;unfold tM at h;walk_at "ln") (Ce A) fun nd hu hv hr=>(qT (d7 (pv 0) (ao (pv 1)) T.cl_Never T.n_Never_word))
theorem VM:OkD P w K mg base CX0 yw "reach" "Never.reach" 1 (bZ K (jm A)):=
 iG (k:=0) yw (by intro ds P h;unfold jm at h;walk_at "ln") (O9 A) fun nd hu hv hr=>(az (aU (cP gM (by rfl) T.g_len (by decide+kernel) (aH (lb (aK (ak (pv 0)) T.aaQ)) aO))))
theorem VN:OkD P w K mg base CX0 yx "first_entry" "first_entry" 1 (bZ K (dY A)):=
 iG (k:=0) yx (by intro ds P h;unfold dY at h;walk_at "ln") (Pj A) fun nd hu hv hr=>(az (aU (dN (aa (lE za (by rfl) T.g_tuple (by decide+kernel) (aH (lb (jZ (own:=[("hand",1)]) rfl nd (cZ (ao (pv 0))) (blkOk_by (N:=["hands","hand"]) (sc:=defScope pD) (by decide+kernel)) (fun _ _ _ _ _=>(pg_name (i:=1) nd rfl (Or.inl rfl))) (aP (i:=1)) (by decide) (fun _ _ _ _ _=>dF) (fun _ _ _ _ _=>(aK (ak (pv 1)) T.ag4)))) aO)) (aa (lE za (by rfl) T.g_tuple (by decide+kernel) (aH (lb (jZ (own:=[("hand",1)]) rfl nd (cZ (ao (pv 0))) (blkOk_by (N:=["hands","hand"]) (sc:=defScope pD) (by decide+kernel)) (fun _ _ _ _ _=>(pg_name (i:=1) nd rfl (Or.inl rfl))) (aP (i:=1)) (by decide) (fun _ _ _ _ _=>dF) (fun _ _ _ _ _=>aD))) aO)) (aa aD aC))))))
theorem VP(hW:bG.w=some w):OkD P w K mg base CX0 yz "least_costs" "least_costs" 1 (bZ K (eX A)):=
 iG (k:=0) yz (by intro ds P h;unfold eX at h;walk_at "ln") (Pn A) fun nd hu hv hr=>(au (P0 (i:=1) (fun _ h=>ps_set (i:=1) nd rfl (Or.inl rfl) h) (aaI hW))
 (au (dw PassesOwn.never rfl (cZ (ao (pv 0))) (pg_tup rfl (pgs_cons (pg_name (i:=2) nd rfl (Or.inl rfl)) (pgs_cons (pg_name (i:=3) nd rfl (Or.inl rfl)) (pgs_cons (pg_name (i:=4) nd rfl (Or.inl rfl)) pgs_nil)))) (ql (aQ (aP (i:=2)) (aQ (aP (i:=3)) (aQ (aP (i:=4)) dZ))))
 (az (JV hW hu (o7 (pv 1)) (dN (aa (ao (pv 2)) (aa (ao (pv 3)) aC))) (cP (avL rfl) (by rfl) T.g_min (by decide+kernel) (aH (ak (pv 4)) (aH (lb (anw hW hu (agL (o7 (pv 1))) (dN (aa (ao (pv 2)) (aa (ao (pv 3)) aC))) (ao (pv 4)))) aO))))))
 (Ut (i:=1) (az (aU (ao (pv 1)))))))
theorem aoJ(hW:bG.w=some w):OkD P w K mg base CX0 ac9 "lands" "lands" 1 (bZ K (pJ A)):=
 iG (k:=0) ac9 (by intro ds P h;unfold pJ at h;walk_at "ln") (aiz A) fun nd hu hv hr=>(au (aW (fun _ h=>ps_set (i:=2) nd rfl (Or.inl rfl) h) aP (anv hW hu (ak (pv 0)) (dN (aa (bj (ak (pv 1)) (lb aD)) (aa (bj (ak (pv 1)) (lb aD)) aC)))))
 (az (aU (Qu (sW afq (ak (pv 2)) (lb Ax)) (Qt (sW aAs (ak (pv 2)) (lb (bj (ak (pv 1)) (lb aD)))))))))
theorem KH:OkD P w K mg base CX0 uZ "__init__" "Book.__init__" 1 (j5 K A.cBook (qF A)):=
 aaJ (k:=0) uZ (by intro ds P h;unfold qF at h;walk_at "ln") (G6 A) fun nd hu hv hr=>(qT (d7 (pv 0) (jZ (own:=[("page",2)]) rfl nd (cZ (ao (pv 1))) (blkOk_by (N:=["self","pages","page"]) (sc:=defScope qw) (by decide+kernel)) (fun _ _ _ _ _=>(pg_name (i:=2) nd rfl (Or.inl rfl))) (aP (i:=2)) (by decide) (fun _ _ _ _ _=>dF) (fun _ _ _ _ _=>(lE vN (by rfl) T.g_list (by decide+kernel) (aH (ak (pv 2)) aO)))) T.cl_Book T.n_Book_pages))
theorem aa8(hW:bG.w=some w):OkD P w K mg base CX0 Gk "rota_back" "rota_back" 1 (bZ K (jg A)):=
 iG (k:=0) Gk (by intro ds P h;unfold jg at h;walk_at "ln") (Yb A) fun nd hu hv hr=>(au (rC (i:=3) (own:=[("person",4)]) rfl nd rfl rfl (sw_true rfl rfl rfl (by decide+kernel)) (cZ (aK (ak (pv 0)) T.dI)) (blkOk_by (N:=["house","key","ways","rows","person","kept","column","mark","row"]) (sc:=defScope tH) (by decide+kernel)) (fun _ _ _ _ _=>(pg_name (i:=4) nd rfl (Or.inl rfl))) (aP (i:=4)) (by decide) (fun _ _ _ _ _=>dF) (fun _ _ _ _ _=>(cY (l:=[]) (by decide+kernel) (by decide+kernel))))
 (au (dw PassesOwn.never rfl (azt (by rfl) T.g_reversed (aa (ao (pv 2)) aC)) (pg_name (i:=5) nd rfl (Or.inl rfl)) (aP (i:=5))
 (au (aW (fun _ h=>ps_asg h (pg_tup rfl (pgs_cons (pg_name (i:=1) nd rfl (Or.inl rfl)) (pgs_cons (pg_name (i:=6) nd rfl (Or.inl rfl)) pgs_nil)))) (ql (aQ (aP (i:=1)) (aQ (aP (i:=6)) dZ))) (agY hW hu (ak (pv 5)) (ao (pv 1))))
 (az (rC (i:=3) (own:=[("mark",7),("row",8)]) rfl nd rfl rfl (sw_true rfl rfl rfl (by decide+kernel)) (Qx (by rfl) T.g_zip (aa (ao (pv 6)) (aa (ao (pv 3)) aC))) (blkOk_by (N:=["house","key","ways","rows","person","kept","column","mark","row"]) (sc:=defScope tH) (by decide+kernel)) (fun _ _ _ _ _=>(pg_tup rfl (pgs_cons (pg_name (i:=7) nd rfl (Or.inl rfl)) (pgs_cons (pg_name (i:=8) nd rfl (Or.inl rfl)) pgs_nil)))) (ql (aQ (aP (i:=7)) (aQ (aP (i:=8)) dZ))) (by decide) (fun _ _ _ _ _=>dF) (fun _ _ _ _ _=>(bQ (ak (pv 7)) (ak (pv 8))))))))
 (az (aU (ao (pv 3))))))
theorem Cu:OkD P w K mg base CX0 su "__init__" "Person.__init__" 1 (j5 K A.cPerson (pW A)):=
 aaJ (k:=0) su (by intro ds P h;unfold pW at h;walk_at "ln") (zK A) fun nd hu hv hr=>(gK (d7 (pv 0) (ao (pv 1)) T.cl_Person T.n_Person_name) (gK (d7 (pv 0) (ao (pv 2)) T.cl_Person T.n_Person_skills) (gK (d7 (pv 0) (ao (pv 3)) T.cl_Person T.n_Person_most) (gK (d7 (pv 0) (ao (pv 4)) T.cl_Person T.n_Person_carried) (qT (d7 (pv 0) (ao (pv 5)) T.cl_Person T.n_Person_past))))))
theorem Hj:OkD P w K mg base CX0 tW "__init__" "House.__init__" 1 (j5 K A.cHouse (pF A)):=
 aaJ (k:=0) tW (by intro ds P h;unfold pF at h;walk_at "ln") (B_ A) fun nd hu hv hr=>(gK (d7 (pv 0) (ao (pv 1)) T.cl_House T.n_House_days) (gK (d7 (pv 0) (ao (pv 2)) T.cl_House T.n_House_kinds) (gK (d7 (pv 0) (lE vN (by rfl) T.g_list (by decide+kernel) (aH (ak (pv 3)) aO)) T.cl_House T.n_House_needs) (gK (d7 (pv 0) (lE vN (by rfl) T.g_list (by decide+kernel) (aH (ak (pv 4)) aO)) T.cl_House T.n_House_persons) (gK (d7 (pv 0) (lE vN (by rfl) T.g_list (by decide+kernel) (aH (ak (pv 5)) aO)) T.cl_House T.n_House_leave) (gK (d7 (pv 0) (lE vN (by rfl) T.g_list (by decide+kernel) (aH (ak (pv 6)) aO)) T.cl_House T.n_House_wishes) (gK (d7 (pv 0) (lE vN (by rfl) T.g_list (by decide+kernel) (aH (ak (pv 7)) aO)) T.cl_House T.n_House_rules) (qT (d7 (pv 0) (lE vN (by rfl) T.g_list (by decide+kernel) (aH (ak (pv 8)) aO)) T.cl_House T.n_House_pairs)))))))))
theorem Yg:OkD P w K mg base CX0 Ag "need" "House.need" 1 (bZ K (lu A)):=
 iG (k:=0) Ag (by intro ds P h;unfold lu at h;walk_at "ln") (Vp A) fun nd hu hv hr=>(au (dw PassesOwn.never rfl (cZ (aK (ak (pv 0)) T.ag5)) (pg_tup rfl (pgs_cons (pg_name (i:=3) nd rfl (Or.inl rfl)) (pgs_cons (pg_name (i:=4) nd rfl (Or.inl rfl)) (pgs_cons (pg_name (i:=5) nd rfl (Or.inl rfl)) (pgs_cons (pg_name (i:=6) nd rfl (Or.inl rfl)) pgs_nil))))) (ql (aQ (aP (i:=3)) (aQ (aP (i:=4)) (aQ (aP (i:=5)) (aQ (aP (i:=6)) dZ)))))
 (az (dG (iV (qj (cG (lD hu) (ak (pv 3)) (ak (pv 1))) (mY (cG (lD hu) (ak (pv 4)) (ak (pv 2))))))
 (az (aU (dN (aa (ao (pv 5)) (aa (ao (pv 6)) aC)))))
 bF)))
 (az (aU (dN (aa aD (aa aD aC))))))
theorem Hk:OkD P w K mg base CX0 tX "place_of" "House.place_of" 1 (bZ K (iy A)):=
 iG (k:=0) tX (by intro ds P h;unfold iy at h;walk_at "ln") (Ca A) fun nd hu hv hr=>(au (dw PassesOwn.never rfl (fV (by rfl) T.g_range (aH (lb (cP gM (by rfl) T.g_len (by decide+kernel) (aH (lb (aK (ak (pv 0)) T.dI)) aO))) aO)) (pg_name (i:=2) nd rfl (Or.inl rfl)) (aP (i:=2))
 (az (dG (cG (lD hu) (lb (aK (lb (bj (lb (aK (ak (pv 0)) T.dI)) (ak (pv 2)))) T.yd)) (ak (pv 1)))
 (az (aU (ao (pv 2))))
 bF)))
 (az ai0))
theorem Cv:OkD P w K mg base CX0 sE "rules_for" "House.rules_for" 1 (bZ K (gD A)):=
 iG (k:=0) sE (by intro ds P h;unfold gD at h;walk_at "ln") (zL A) fun nd hu hv hr=>(au (jO (i:=2) (fun _ h=>ps_set (i:=2) nd rfl (Or.inl rfl) h) (l_ aC))
 (au (dw PassesOwn.never rfl (fV (by rfl) T.g_range (aH (lb (cP gM (by rfl) T.g_len (by decide+kernel) (aH (lb (aK (ak (pv 0)) T.Qe)) aO))) aO)) (pg_name (i:=3) nd rfl (Or.inl rfl)) (aP (i:=3))
 (au (aW (fun _ h=>ps_asg h (pg_tup rfl (pgs_cons (pg_name (i:=4) nd rfl (Or.inl rfl)) (pgs_cons (pg_name (i:=5) nd rfl (Or.inl rfl)) pgs_nil)))) (ql (aQ (aP (i:=4)) (aQ (aP (i:=5)) dZ))) (bj (lb (aK (ak (pv 0)) T.Qe)) (ak (pv 3))))
 (az (dG (iV (Yk (cG (lD hu) (ak (pv 4)) (lb (cY (l:=[97,108,108]) (by decide+kernel) (by decide+kernel)))) (Ht (cG (lD hu) (ak (pv 4)) (lb (aK (lb (bj (lb (aK (ak (pv 0)) T.dI)) (ak (pv 1)))) T.yd))))))
 (az (mj (i:=2) (pv 2) (dN (aa (ao (pv 3)) (aa (ao (pv 5)) aC))) (fun _ h=>pe_bm PySem.F.plainAttrs_list PySem.F.slot_list_append PySem.F.type_list_append mt_append (pv 2) (pa_cons h pa_nil))))
 bF))))
 (lQ (i:=2) (az (aU (ao (pv 2)))))))
theorem aa9:OkD P w K mg base CX0 Gn "_law_cell_at" "_law_cell_at" 1 (bZ K (cI A)):=
 iG (k:=0) Gn (by intro ds P h;unfold cI at h;walk_at "ln") (X5 A) fun nd hu hv hr=>(au (dG (cG ai8 (ak (pv 1)) (lb (cP gM (by rfl) T.g_len (by decide+kernel) (aH (ak (pv 0)) aO))))
 (az (aU (bj (ak (pv 0)) (ak (pv 1)))))
 bF)
 (az (aU aD)))
theorem afc:OkD P w K mg base CX0 Vg "_law_names" "_law_names" 1 (bZ K (mO A)):=
 iG (k:=0) Vg (by intro ds P h;unfold mO at h;walk_at "ln") (adw A) fun nd hu hv hr=>(au (aW (fun _ h=>ps_set (i:=2) nd rfl (Or.inr rfl) h) aP (cY (l:=[98,99,100,101,102,103,104,105,106,107,109,110,111,112,113,114,115,116,117,118,119,120,121,122]) (by decide+kernel) (by decide+kernel)))
 (au (aW (fun _ h=>ps_set (i:=3) nd rfl (Or.inr rfl) h) aP (cY (l:=[]) (by decide+kernel) (by decide+kernel)))
 (au (dw PassesOwn.never rfl (fV (by rfl) T.g_range (aH (lb (gW (ak (pv 0)) (lb aD))) aO)) (pg_name (i:=4) nd rfl (Or.inl rfl)) (aP (i:=4))
 (az (aW (fun _ h=>ps_set (i:=3) nd rfl (Or.inr rfl) h) aP (bQ (ak (pv 3)) (lb (bj (ak (pv 2)) (lb (gW (lb (pC (ak (pv 0)) (lb (bQ (lb aD) (lb (Zz (lb aD) (ak (pv 4)))))))) (lb aD)))))))))
 (au (aW (fun _ h=>ps_set (i:=5) nd rfl (Or.inr rfl) h) aP (gW (lb (pC (ak (pv 0)) (lb aD))) (lb (bQ (lb (cP gM (by rfl) T.g_len (by decide+kernel) (aH (ak (pv 3)) aO))) (lb aD)))))
 (az (aU (jZ (own:=[("_law_k",4)]) rfl nd (fV (by rfl) T.g_range (aH (ak (pv 1)) aO)) (blkOk_by (N:=["_law_cell","_law_many","_law_some","_law_stem","_law_k","_law_at"]) (sc:=defScope JW) (by decide+kernel)) (fun _ _ _ _ _=>(pg_name (i:=4) nd rfl (Or.inl rfl))) (aP (i:=4)) (by decide) (fun _ _ _ _ _=>dF) (fun _ _ _ _ _=>(bQ (lb (bQ (lb (zP (ak (pv 3)) qR (m7 (ao (pv 5))))) (lb (bj (ak (pv 2)) (lb (gW (lb (bQ (lb (pC (ak (pv 0)) (lb aD))) (ak (pv 4)))) (lb aD))))))) (lb (zP (ak (pv 3)) (m7 (ao (pv 5))) qR)))))))))))
theorem afd:OkD P w K mg base CX0 Vh "_law_kinds" "_law_kinds" 1 (bZ K (mQ A)):=
 iG (k:=0) Vh (by intro ds P h;unfold mQ at h;walk_at "ln") (adu A) fun nd hu hv hr=>(au (aW (fun _ h=>ps_set (i:=2) nd rfl (Or.inr rfl) h) aP (cY (l:=[65,66,67,68,69,70,71,72,73,74,75,76,77,78,79,80,81,82,83,84,85,86,87,88,89,90]) (by decide+kernel) (by decide+kernel)))
 (az (aU (apd (cY (l:=[]) (by decide+kernel) (by decide+kernel)) (lb (jZ (own:=[("_law_k",3)]) rfl nd (fV (by rfl) T.g_range (aH (ak (pv 1)) aO)) (blkOk_by (N:=["_law_cell","_law_many","_law_letters","_law_k"]) (sc:=defScope JX) (by decide+kernel)) (fun _ _ _ _ _=>(pg_name (i:=3) nd rfl (Or.inl rfl))) (aP (i:=3)) (by decide) (fun _ _ _ _ _=>dF) (fun _ _ _ _ _=>(bj (ak (pv 2)) (lb (gW (lb (bQ (ak (pv 0)) (lb (Zz (lb aD) (ak (pv 3)))))) (lb aD)))))))))))
theorem aoK:OkD P w K mg base CX0 ac_ "_law_day" "_law_day" 1 (bZ K (tO A)):=
 iG (k:=0) ac_ (by intro ds P h;unfold tO at h;walk_at "ln") (aiD A) fun nd hu hv hr=>(au (dG (cG (lD hu) (lb (gW (ak (pv 0)) (lb aD))) (lb aD))
 (az (aU (iD (aa (dN (aa (ao (pv 1)) (aa (bj (ak (pv 2)) (lb aD)) (aa aD (aa aD aC))))) aC))))
 bF)
 (au (dG (cG (lD hu) (lb (gW (ak (pv 0)) (lb aD))) (lb aD))
 (az (aU (jZ (own:=[("_law_k",3),("_law_kind",4)]) rfl nd (anN (by rfl) T.g_enumerate (aa (ao (pv 2)) aC)) (blkOk_by (N:=["_law_cell","_law_day_here","_law_kinds_here","_law_k","_law_kind"]) (sc:=defScope aaK) (by decide+kernel)) (fun _ _ _ _ _=>(pg_tup rfl (pgs_cons (pg_name (i:=3) nd rfl (Or.inl rfl)) (pgs_cons (pg_name (i:=4) nd rfl (Or.inl rfl)) pgs_nil)))) (ql (aQ (aP (i:=3)) (aQ (aP (i:=4)) dZ))) (by decide) (fun _ _ _ _ _=>dF) (fun _ _ _ _ _=>(dN (aa (ao (pv 1)) (aa (ao (pv 4)) (aa aD (aa (xK (lb aD) (ak (pv 3))) aC)))))))))
 bF)
 (az (aU (zP (lb (iD (aa (dN (aa (ao (pv 1)) (aa (bj (ak (pv 2)) (lb (xr (lb aD)))) (aa aD (aa aD aC))))) aC))) qR (m7 (xK (lb (gW (ak (pv 0)) (lb aD))) (lb aD))))))))
theorem aa_:OkD P w K mg base CX0 Gp "_law_product" "_law_product" 1 (bZ K (jh A)):=
 iG (k:=0) Gp (by intro ds P h;unfold jh at h;walk_at "ln") (Yc A) fun nd hu hv hr=>(au (rC (i:=4) (own:=[("_law_need",5)]) rfl nd rfl rfl (sw_true rfl rfl rfl (by decide+kernel)) (cZ (aK (ak (pv 0)) T.ag5)) (blkOk_by (N:=["_law_house_here","_law_names_here","_law_day_here","_law_leave","_law_kinds_here","_law_need","_law_ways","_law_name"]) (sc:=defScope x_) (by decide+kernel)) (fun _ _ _ _ _=>(pg_name (i:=5) nd rfl (Or.inl rfl))) (aP (i:=5)) (by decide) (fun _ _ _ _ _=>Px (iV (qj (cG (lD hu) (lb (bj (ak (pv 5)) (lb aD))) (ak (pv 2))) (mY (cG V6 (lb (bj (ak (pv 5)) (lb aD))) (lb aD)))))) (fun _ _ _ _ _=>(bj (ak (pv 5)) (lb aD))))
 (au (aW (fun _ h=>ps_set (i:=6) nd rfl (Or.inl rfl) h) aP aD)
 (au (dw PassesOwn.never rfl (cZ (ao (pv 1))) (pg_name (i:=7) nd rfl (Or.inl rfl)) (aP (i:=7))
 (az (dG (cG (aje hv) (lb (dN (aa (ao (pv 7)) (aa (ao (pv 2)) aC)))) (ak (pv 3)))
 (az (aW (fun _ h=>ps_set (i:=6) nd rfl (Or.inl rfl) h) aP (Zz (ak (pv 6)) (lb (bQ (lb aD) (lb (cP gM (by rfl) T.g_len (by decide+kernel) (aH (ak (pv 4)) aO))))))))
 bF)))
 (az (aU (ao (pv 6)))))))
theorem Yh(N_need: ∀C S,ye A C S→cM P w K mg base CX0 1 "need" C S):OkD P w K mg base CX0 Ah "needs_hold" "needs_hold" 2 (bZ K (je A)):=
 iG (k:=1) Ah (by intro ds P h;unfold je at h;walk_at "ln") (Vr A) fun nd hu hv hr=>(au (dw PassesOwn.never rfl (cZ (aK (ak (pv 0)) T.aaM)) (pg_name (i:=3) nd rfl (Or.inl rfl)) (aP (i:=3))
 (au (aW (fun _ h=>ps_asg h (pg_tup rfl (pgs_cons (pg_name (i:=4) nd rfl (Or.inl rfl)) (pgs_cons (pg_name (i:=5) nd rfl (Or.inl rfl)) pgs_nil)))) (ql (aQ (aP (i:=4)) (aQ (aP (i:=5)) dZ))) (dH (CX:=CX0) (E:=E0) (ao (pv 0)) N_need (hr.mono (by decide)) pass0 (aa (ao (pv 1)) (aa (ao (pv 3)) aC))))
 (az (dG (iV (Yk (cG ai8 (lb (acr (ak (pv 2)) (ak (pv 3)))) (ak (pv 4))) (Ht (cG V6 (lb (acr (ak (pv 2)) (ak (pv 3)))) (ak (pv 5))))))
 (az (aU qZ))
 bF))))
 (az (aU qZ)))
theorem Yi(N_place_of: ∀C S,jj A C S→cM P w K mg base CX0 1 "place_of" C S):OkD P w K mg base CX0 Ai "pairs_hold" "pairs_hold" 2 (bZ K (jf A)):=
 iG (k:=1) Ai (by intro ds P h;unfold jf at h;walk_at "ln") (Vs A) fun nd hu hv hr=>(au (dw PassesOwn.never rfl (cZ (aK (ak (pv 0)) T.aaP)) (pg_tup rfl (pgs_cons (pg_name (i:=2) nd rfl (Or.inl rfl)) (pgs_cons (pg_name (i:=3) nd rfl (Or.inl rfl)) (pgs_cons (pg_name (i:=4) nd rfl (Or.inl rfl)) pgs_nil)))) (ql (aQ (aP (i:=2)) (aQ (aP (i:=3)) (aQ (aP (i:=4)) dZ))))
 (au (aW (fun _ h=>ps_set (i:=5) nd rfl (Or.inl rfl) h) aP (bj (ak (pv 1)) (lb (dH (CX:=CX0) (E:=E0) (ao (pv 0)) N_place_of (hr.mono (by decide)) pass0 (aa (ao (pv 3)) aC)))))
 (au (aW (fun _ h=>ps_set (i:=6) nd rfl (Or.inl rfl) h) aP (sW (lD hu) (lb (bj (ak (pv 1)) (lb (dH (CX:=CX0) (E:=E0) (ao (pv 0)) N_place_of (hr.mono (by decide)) pass0 (aa (ao (pv 4)) aC))))) (ak (pv 5))))
 (az (dG (iV (qj (cG (Qz hu) (ak (pv 5)) (lb (cY (l:=[45]) (by decide+kernel) (by decide+kernel)))) (mY (cG (lD hu) (ak (pv 6)) (lb (sW (lD hu) (ak (pv 2)) (lb (cY (l:=[97,112,97,114,116]) (by decide+kernel) (by decide+kernel)))))))))
 (az (aU qZ))
 bF)))))
 (az (aU qZ)))
theorem xg(N_place_of: ∀C S,jj A C S→cM P w K mg base CX0 1 "place_of" C S):OkD P w K mg base CX0 oV "__init__" "EvenCosts.__init__" 2 (j5 K A.cEvenCosts (jK A)):=
 aaJ (k:=1) oV (by intro ds P h;unfold jK at h;walk_at "ln") (v9 A) fun nd hu hv hr=>(gK (d7 (pv 0) (jZ (own:=[("person",2)]) rfl nd (cZ (aK (ak (pv 1)) T.dI)) (blkOk_by (N:=["self","house","person","name","day","marks"]) (sc:=defScope iZ) (by decide+kernel)) (fun _ _ _ _ _=>(pg_name (i:=2) nd rfl (Or.inl rfl))) (aP (i:=2)) (by decide) (fun _ _ _ _ _=>dF) (fun _ _ _ _ _=>(aK (ak (pv 2)) T.uO))) T.cl_EvenCosts T.n_EvenCosts_carried) (gK (d7 (pv 0) (bQ (lb (cP gM (by rfl) T.g_len (by decide+kernel) (aH (lb (aK (ak (pv 1)) T.U6)) aO))) (lb aD)) T.cl_EvenCosts T.n_EvenCosts_weight) (qT (d7 (pv 0) (jZ (own:=[("name",3),("day",4),("marks",5)]) rfl nd (cZ (aK (ak (pv 1)) T.U6)) (blkOk_by (N:=["self","house","person","name","day","marks"]) (sc:=defScope iZ) (by decide+kernel)) (fun _ _ _ _ _=>(pg_tup rfl (pgs_cons (pg_name (i:=3) nd rfl (Or.inl rfl)) (pgs_cons (pg_name (i:=4) nd rfl (Or.inl rfl)) (pgs_cons (pg_name (i:=5) nd rfl (Or.inl rfl)) pgs_nil))))) (ql (aQ (aP (i:=3)) (aQ (aP (i:=4)) (aQ (aP (i:=5)) dZ)))) (by decide) (fun _ _ _ _ _=>dF) (fun _ _ _ _ _=>(dN (aa (dH (CX:=CX0) (E:=E0) (ao (pv 1)) N_place_of (hr.mono (by decide)) pass0 (aa (ao (pv 3)) aC)) (aa (ao (pv 4)) (aa (ao (pv 5)) aC)))))) T.cl_EvenCosts T.n_EvenCosts_wishes))))
theorem adJ(N_of_count: ∀C S,mF A C S→cM P w K mg base CX0 1 "of_count" C S)(N_of_mark: ∀C S,o_ A C S→cM P w K mg base CX0 1 "of_mark" C S):OkD P w K mg base CX0 Ly "total_of" "total_of" 2 (bZ K (jk A)):=
 iG (k:=1) Ly (by intro ds P h;unfold jk at h;walk_at "ln") (aa6 A) fun nd hu hv hr=>(au (aW (fun _ h=>ps_set (i:=3) nd rfl (Or.inl rfl) h) aP aD)
 (au (dw PassesOwn.never rfl (fV (by rfl) T.g_range (aH (lb (cP gM (by rfl) T.g_len (by decide+kernel) (aH (ak (pv 2)) aO))) aO)) (pg_name (i:=4) nd rfl (Or.inl rfl)) (aP (i:=4))
 (au (aW (fun _ h=>ps_set (i:=5) nd rfl (Or.inl rfl) h) aP aD)
 (au (dw PassesOwn.never rfl (fV (by rfl) T.g_range (aH (lb (aK (ak (pv 0)) T.BP)) aO)) (pg_name (i:=6) nd rfl (Or.inl rfl)) (aP (i:=6))
 (au (aW (fun _ h=>ps_set (i:=7) nd rfl (Or.inl rfl) h) aP (bj (lb (bj (ak (pv 2)) (ak (pv 4)))) (ak (pv 6))))
 (au (aW (fun _ h=>ps_set (i:=3) nd rfl (Or.inl rfl) h) aP (bQ (ak (pv 3)) (lb (dH (CX:=CX0) (E:=E0) (ao (pv 1)) N_of_mark (hr.mono (by decide)) pass0 (aa (ao (pv 4)) (aa (ao (pv 6)) (aa (ao (pv 7)) aC)))))))
 (az (dG (cG (Qz hu) (ak (pv 7)) (lb (cY (l:=[45]) (by decide+kernel) (by decide+kernel))))
 (az (aW (fun _ h=>ps_set (i:=5) nd rfl (Or.inl rfl) h) aP (bQ (ak (pv 5)) (lb aD))))
 bF)))))
 (az (aW (fun _ h=>ps_set (i:=3) nd rfl (Or.inl rfl) h) aP (bQ (ak (pv 3)) (lb (dH (CX:=CX0) (E:=E0) (ao (pv 1)) N_of_count (hr.mono (by decide)) pass0 (aa (ao (pv 4)) (aa (ao (pv 5)) aC))))))))))
 (az (aU (ao (pv 3))))))
theorem VR(N_need: ∀C S,ye A C S→cM P w K mg base CX0 1 "need" C S):OkD P w K mg base CX0 yC "need_faults" "need_faults" 2 (bZ K (ie A)):=
 iG (k:=1) yC (by intro ds P h;unfold ie at h;walk_at "ln") (Pa A) fun nd hu hv hr=>(au (jO (i:=3) (fun _ h=>ps_set (i:=3) nd rfl (Or.inl rfl) h) (l_ aC))
 (au (dw PassesOwn.never rfl (cZ (aK (ak (pv 0)) T.aaM)) (pg_name (i:=4) nd rfl (Or.inr rfl)) (aP (i:=4))
 (au (aW (fun _ h=>ps_set (i:=5) nd rfl (Or.inl rfl) h) aP (cP gM (by rfl) T.g_len (by decide+kernel) (aH (lb (jZ (own:=[("row",6)]) rfl nd (cZ (ao (pv 1))) (blkOk_by (N:=["house","rota","day","found","kind","many","row","least","most"]) (sc:=defScope uz) (by decide+kernel)) (fun _ _ _ _ _=>(pg_name (i:=6) nd rfl (Or.inl rfl))) (aP (i:=6)) (by decide) (fun _ _ _ _ _=>Px (cG (lD hu) (lb (bj (ak (pv 6)) (ak (pv 2)))) (ak (pv 4)))) (fun _ _ _ _ _=>(ao (pv 6))))) aO)))
 (au (aW (fun _ h=>ps_asg h (pg_tup rfl (pgs_cons (pg_name (i:=7) nd rfl (Or.inl rfl)) (pgs_cons (pg_name (i:=8) nd rfl (Or.inl rfl)) pgs_nil)))) (ql (aQ (aP (i:=7)) (aQ (aP (i:=8)) dZ))) (dH (CX:=CX0) (E:=E0) (ao (pv 0)) N_need (hr.mono (by decide)) pass0 (aa (ao (pv 2)) (aa (ao (pv 4)) aC))))
 (az (dG (iV (Yk (cG ai8 (ak (pv 5)) (ak (pv 7))) (Ht (cG V6 (ak (pv 5)) (ak (pv 8))))))
 (az (mj (i:=3) (pv 3) (dN (aa (ao (pv 2)) (aa (cY (l:=[110,101,101,100]) (by decide+kernel) (by decide+kernel)) (aa (ao (pv 4)) (aa (ao (pv 5)) aC))))) (fun _ h=>pe_bm PySem.F.plainAttrs_list PySem.F.slot_list_append PySem.F.type_list_append mt_append (pv 3) (pa_cons h pa_nil))))
 bF)))))
 (lQ (i:=3) (az (aU (ao (pv 3)))))))
theorem V1(N_place_of: ∀C S,jj A C S→cM P w K mg base CX0 1 "place_of" C S):OkD P w K mg base CX0 yD "pair_faults" "pair_faults" 2 (bZ K (ir A)):=
 iG (k:=1) yD (by intro ds P h;unfold ir at h;walk_at "ln") (Pg A) fun nd hu hv hr=>(au (jO (i:=3) (fun _ h=>ps_set (i:=3) nd rfl (Or.inl rfl) h) (l_ aC))
 (au (dw PassesOwn.never rfl (fV (by rfl) T.g_range (aH (lb (cP gM (by rfl) T.g_len (by decide+kernel) (aH (lb (aK (ak (pv 0)) T.aaP)) aO))) aO)) (pg_name (i:=4) nd rfl (Or.inl rfl)) (aP (i:=4))
 (au (aW (fun _ h=>ps_asg h (pg_tup rfl (pgs_cons (pg_name (i:=5) nd rfl (Or.inl rfl)) (pgs_cons (pg_name (i:=6) nd rfl (Or.inl rfl)) (pgs_cons (pg_name (i:=7) nd rfl (Or.inl rfl)) pgs_nil))))) (ql (aQ (aP (i:=5)) (aQ (aP (i:=6)) (aQ (aP (i:=7)) dZ)))) (bj (lb (aK (ak (pv 0)) T.aaP)) (ak (pv 4))))
 (au (aW (fun _ h=>ps_set (i:=8) nd rfl (Or.inl rfl) h) aP (bj (lb (bj (ak (pv 1)) (lb (dH (CX:=CX0) (E:=E0) (ao (pv 0)) N_place_of (hr.mono (by decide)) pass0 (aa (ao (pv 6)) aC))))) (ak (pv 2))))
 (au (aW (fun _ h=>ps_set (i:=9) nd rfl (Or.inl rfl) h) aP (bj (lb (bj (ak (pv 1)) (lb (dH (CX:=CX0) (E:=E0) (ao (pv 0)) N_place_of (hr.mono (by decide)) pass0 (aa (ao (pv 7)) aC))))) (ak (pv 2))))
 (az (dG (iV (qj (cG (Qz hu) (ak (pv 8)) (lb (cY (l:=[45]) (by decide+kernel) (by decide+kernel)))) (mY (cG (lD hu) (lb (sW (lD hu) (ak (pv 8)) (ak (pv 9)))) (lb (sW (lD hu) (ak (pv 5)) (lb (cY (l:=[97,112,97,114,116]) (by decide+kernel) (by decide+kernel)))))))))
 (az (mj (i:=3) (pv 3) (dN (aa (ao (pv 2)) (aa (cY (l:=[112,97,105,114]) (by decide+kernel) (by decide+kernel)) (aa (ao (pv 6)) (aa (ao (pv 4)) aC))))) (fun _ h=>pe_bm PySem.F.plainAttrs_list PySem.F.slot_list_append PySem.F.type_list_append mt_append (pv 3) (pa_cons h pa_nil))))
 bF))))))
 (lQ (i:=3) (az (aU (ao (pv 3)))))))
theorem aba(F_fits:FnG P w K mg base "fits" 1 (yf A))(F_last_of:FnG P w K mg base "last_of" 1 (iU A)):OkD P w K mg base CX0 Gu "bad" "Never.bad" 2 (bZ K (kY A)):=
 iG (k:=1) Gu (by intro ds P h;unfold kY at h;walk_at "ln") (X6 A) fun nd hu hv hr=>(au (dG (cG ai8 (lb (cP gM (by rfl) T.g_len (by decide+kernel) (aH (ak (pv 1)) aO))) (lb (cP gM (by rfl) T.g_len (by decide+kernel) (aH (lb (aK (ak (pv 0)) T.aaQ)) aO))))
 (az (aU qZ))
 bF)
 (au (dw PassesOwn.never rfl (Qx (by rfl) T.g_zip (aa (aK (ak (pv 0)) T.aaQ) (aa (a_ F_last_of (hr.mono (by decide)) (by rfl) pass0 (aa (ao (pv 1)) (aa (cP gM (by rfl) T.g_len (by decide+kernel) (aH (lb (aK (ak (pv 0)) T.aaQ)) aO)) aC))) aC))) (pg_tup rfl (pgs_cons (pg_name (i:=2) nd rfl (Or.inl rfl)) (pgs_cons (pg_name (i:=3) nd rfl (Or.inl rfl)) pgs_nil))) (ql (aQ (aP (i:=2)) (aQ (aP (i:=3)) dZ)))
 (az (dG (Zw (vK (a_ F_fits (hr.mono (by decide)) (by rfl) pass0 (aa (ao (pv 2)) (aa (ao (pv 3)) aC)))))
 (az (aU qZ))
 bF)))
 (az (aU qZ))))
theorem adK(F_last_of:FnG P w K mg base "last_of" 1 (iU A)):OkD P w K mg base CX0 LC "cut" "Hand.cut" 2 (bZ K (pq A)):=
 iG (k:=1) LC (by intro ds P h;unfold pq at h;walk_at "ln") (aa4 A) fun nd hu hv hr=>(az (aU (a_ F_last_of (hr.mono (by decide)) (by rfl) pass0 (aa (ao (pv 1)) (aa (aK (ak (pv 0)) T.aeN) aC)))))
theorem atv(N_of_mark: ∀C S,o_ A C S→cM P w K mg base CX0 1 "of_mark" C S):OkD P w K mg base CX0 ahc "step" "step" 2 (bZ K (ym A)):=
 iG (k:=1) ahc (by intro ds P h;unfold ym at h;walk_at "ln") (aoh A) fun nd hu hv hr=>(au (jO (i:=5) (fun _ h=>ps_set (i:=5) nd rfl (Or.inl rfl) h) (l_ aC))
 (au (jO (i:=6) (fun _ h=>ps_set (i:=6) nd rfl (Or.inl rfl) h) (l_ aC))
 (au (aW (fun _ h=>ps_set (i:=7) nd rfl (Or.inl rfl) h) aP (bj (ak (pv 3)) (lb aD)))
 (au (dw PassesOwn.never rfl (ao_ (by rfl) T.g_enumerate (aa (ao (pv 0)) aC)) (pg_tup rfl (pgs_cons (pg_name (i:=8) nd rfl (Or.inl rfl)) (pgs_cons (pg_name (i:=9) nd rfl (Or.inl rfl)) pgs_nil))) (ql (aQ (aP (i:=8)) (aQ (aP (i:=9)) dZ)))
 (au (aW (fun _ h=>ps_set (i:=10) nd rfl (Or.inl rfl) h) aP (anz hu (ak (pv 9)) (bj (ak (pv 4)) (ak (pv 8)))))
 (au (dG (cG aAt (ak (pv 10)) (lb Ax))
 (az (aU Ax))
 bF)
 (au (mj (i:=5) (pv 5) (bj (ak (pv 10)) (lb aD)) (fun _ h=>pe_bm PySem.F.plainAttrs_list PySem.F.slot_list_append PySem.F.type_list_append mt_append (pv 5) (pa_cons h pa_nil)))
 (au (mj (i:=6) (pv 6) (bj (ak (pv 10)) (lb aD)) (fun _ h=>pe_bm PySem.F.plainAttrs_list PySem.F.slot_list_append PySem.F.type_list_append mt_append (pv 6) (pa_cons h pa_nil)))
 (az (aW (fun _ h=>ps_set (i:=7) nd rfl (Or.inl rfl) h) aP (bQ (ak (pv 7)) (lb (dH (CX:=CX0) (E:=E0) (ao (pv 1)) N_of_mark (hr.mono (by decide)) pass0 (aa (ao (pv 8)) (aa (ao (pv 2)) (aa (bj (ak (pv 4)) (ak (pv 8))) aC)))))))))))))
 (az (aU (dN (aa (lE za (by rfl) T.g_tuple (by decide+kernel) (aH (ak (pv 5)) aO)) (aa (lE za (by rfl) T.g_tuple (by decide+kernel) (aH (ak (pv 6)) aO)) (aa (ao (pv 7)) aC))))))))))
theorem aoL(N_of_count: ∀C S,mF A C S→cM P w K mg base CX0 1 "of_count" C S):OkD P w K mg base CX0 ada "ended" "ended" 2 (bZ K (lX A)):=
 iG (k:=1) ada (by intro ds P h;unfold lX at h;walk_at "ln") (aiv A) fun nd hu hv hr=>(au (aW (fun _ h=>ps_set (i:=2) nd rfl (Or.inl rfl) h) aP (bj (ak (pv 1)) (lb aD)))
 (au (dw PassesOwn.never rfl (anH (by rfl) T.g_enumerate (aa (bj (ak (pv 1)) (lb aD)) aC)) (pg_tup rfl (pgs_cons (pg_name (i:=3) nd rfl (Or.inl rfl)) (pgs_cons (pg_name (i:=4) nd rfl (Or.inl rfl)) pgs_nil))) (ql (aQ (aP (i:=3)) (aQ (aP (i:=4)) dZ)))
 (az (aW (fun _ h=>ps_set (i:=2) nd rfl (Or.inl rfl) h) aP (bQ (ak (pv 2)) (lb (dH (CX:=CX0) (E:=E0) (ao (pv 0)) N_of_count (hr.mono (by decide)) pass0 (aa (ao (pv 3)) (aa (ao (pv 4)) aC))))))))
 (az (aU (ao (pv 2))))))
theorem abb(N_need: ∀C S,ye A C S→cM P w K mg base CX0 1 "need" C S):OkD P w K mg base CX0 Gv "may" "House.may" 2 (bZ K (mJ A)):=
 iG (k:=1) Gv (by intro ds P h;unfold mJ at h;walk_at "ln") (X7 A) fun nd hu hv hr=>(au (aW (fun _ h=>ps_set (i:=3) nd rfl (Or.inl rfl) h) aP (bj (lb (aK (ak (pv 0)) T.dI)) (ak (pv 1))))
 (au (dG (cG (atD hv) (lb (dN (aa (aK (ak (pv 3)) T.yd) (aa (ao (pv 2)) aC)))) (lb (aK (ak (pv 0)) T.aaN)))
 (az (aU (cY (l:=[]) (by decide+kernel) (by decide+kernel))))
 bF)
 (au (aW (fun _ h=>ps_set (i:=4) nd rfl (Or.inl rfl) h) aP (cY (l:=[]) (by decide+kernel) (by decide+kernel)))
 (au (dw PassesOwn.never rfl (cZ (aK (ak (pv 0)) T.aaM)) (pg_name (i:=5) nd rfl (Or.inl rfl)) (aP (i:=5))
 (az (dG (iV (qj (cG aAu (ak (pv 5)) (lb (aK (ak (pv 3)) T.acR))) (mY (cG V6 (lb (bj (lb (dH (CX:=CX0) (E:=E0) (ao (pv 0)) N_need (hr.mono (by decide)) pass0 (aa (ao (pv 2)) (aa (ao (pv 5)) aC)))) (lb aD))) (lb aD)))))
 (az (aW (fun _ h=>ps_set (i:=4) nd rfl (Or.inl rfl) h) aP (bQ (ak (pv 4)) (ak (pv 5)))))
 bF)))
 (az (aU (ao (pv 4))))))))
theorem Hm(N_reach: ∀C S,FT A C S→cM P w K mg base CX0 1 "reach" C S)(N_rules_for: ∀C S,jL A C S→cM P w K mg base CX0 1 "rules_for" C S):OkD P w K mg base CX0 tZ "reach_of" "House.reach_of" 2 (bZ K (iz A)):=
 iG (k:=1) tZ (by intro ds P h;unfold iz at h;walk_at "ln") (Cj A) fun nd hu hv hr=>(az (aU (cP (awy rfl) (by rfl) T.g_max (by decide+kernel) (aH (lb (bQ (lb (iD (aa aD aC))) (lb (jZ (own:=[("number",2),("rule",3)]) rfl nd (cZ (dH (CX:=CX0) (E:=E0) (ao (pv 0)) N_rules_for (hr.mono (by decide)) pass0 (aa (ao (pv 1)) aC))) (blkOk_by (N:=["self","p","number","rule"]) (sc:=defScope o9) (by decide+kernel)) (fun _ _ _ _ _=>(pg_tup rfl (pgs_cons (pg_name (i:=2) nd rfl (Or.inl rfl)) (pgs_cons (pg_name (i:=3) nd rfl (Or.inl rfl)) pgs_nil)))) (ql (aQ (aP (i:=2)) (aQ (aP (i:=3)) dZ))) (by decide) (fun _ _ _ _ _=>dF) (fun _ _ _ _ _=>(ai6 (CX:=CX0) (E:=E0) (ao (pv 3)) N_reach (hr.mono (by decide)) pass0)))))) aO))))
theorem abd(F_last_of:FnG P w K mg base "last_of" 1 (iU A)):OkD P w K mg base CX0 Gx "cut" "Hand.cut" 2 (qu K (jM A)):=
 aDB (k:=1) Gx (by intro ds P h;unfold jM at h;walk_at "ln") (X8 A) fun nd hu hv hr=>(az (aqE (agM (a_ F_last_of (hr.mono (by decide)) (by rfl) pass0 (aa (ao (pv 1)) (aa (aCh (aw_ (o7 (pv 0)) T.aeN)) aC))))))
theorem afe(F_needs_hold:FnG P w K mg base "needs_hold" 2 (je A))(F_pairs_hold:FnG P w K mg base "pairs_hold" 2 (jf A))(N_may: ∀C S,YJ A C S→cM P w K mg base CX0 2 "may" C S):OkD P w K mg base (L2.CX P w) Vk "columns" "columns" 3 (uv K [false,false] (jD A)):=
 azD (ms:=[false,false]) (k:=2) Vk (by intro ds P Xc h;unfold jD at h;walk_at "ln") (adi A) fun nd hu hv tk hr hE=>(au (rC (i:=2) (own:=[("p",3)]) rfl nd rfl rfl (sw_true rfl rfl rfl (by decide+kernel)) (fV (by rfl) T.g_range (aH (lb (cP gM (by rfl) T.g_len (by decide+kernel) (aH (lb (aK (ak (pv 0)) T.dI)) aO))) aO)) (blkOk_by (N:=["house","day","sorts","p","ways","marks","found","longer","column","mark"]) (sc:=defScope uN) (by decide+kernel)) (fun _ _ _ _ _=>(pg_name (i:=3) nd rfl (Or.inl rfl))) (aP (i:=3)) (by decide) (fun _ _ _ _ _=>dF) (fun _ _ _ _ _=>(bQ (lb (cY (l:=[45]) (by decide+kernel) (by decide+kernel))) (lb (dH (CX:=CX0) (E:=E0) (ao (pv 0)) N_may (hr.mono (by decide)) pass0 (aa (ao (pv 3)) (aa (ao (pv 1)) aC)))))))
 (au (aW (fun _ h=>ps_set (i:=4) nd rfl (Or.inl rfl) h) aP aD)
 (au (dw (passes_of rfl) rfl (cZ (ao (pv 2))) (pg_name (i:=5) nd rfl (Or.inl rfl)) (aP (i:=5))
 (az (aW (fun _ h=>ps_set (i:=4) nd rfl (Or.inl rfl) h) aP (Zz (ak (pv 4)) (lb (cP gM (by rfl) T.g_len (by decide+kernel) (aH (ak (pv 5)) aO)))))))
 (au (dG (cG V6 (ak (pv 4)) (lb (afv rfl T.k_MOST_WAYS)))
 (az (aco T.x_TooWide rfl tk hE (by rfl)))
 bF)
 (au (aW (fun _ h=>ps_set (i:=6) nd rfl (Or.inl rfl) h) aP (iD (aa (cY (l:=[]) (by decide+kernel) (by decide+kernel)) aC)))
 (au (dw (passes_of rfl) rfl (cZ (ao (pv 2))) (pg_name (i:=5) nd rfl (Or.inl rfl)) (aP (i:=5))
 (au (aW (fun _ h=>ps_set (i:=7) nd rfl (Or.inl rfl) h) aP (iD aC))
 (au (dw (passes_of rfl) rfl (cZ (ao (pv 6))) (pg_name (i:=8) nd rfl (Or.inr rfl)) (aP (i:=8))
 (az (aW (fun _ h=>ps_set (i:=7) nd rfl (Or.inl rfl) h) aP (bQ (ak (pv 7)) (lb (jZ (own:=[("mark",9)]) rfl nd (cZ (ao (pv 5))) (blkOk_by (N:=["house","day","sorts","p","ways","marks","found","longer","column","mark"]) (sc:=defScope uN) (by decide+kernel)) (fun _ _ _ _ _=>(pg_name (i:=9) nd rfl (Or.inl rfl))) (aP (i:=9)) (by decide) (fun _ _ _ _ _=>dF) (fun _ _ _ _ _=>(bQ (ak (pv 8)) (ak (pv 9))))))))))
 (az (aW (fun _ h=>ps_set (i:=6) nd rfl (Or.inl rfl) h) aP (ao (pv 7)))))))
 (az (aU (cP aqg (by rfl) T.g_sorted (by decide+kernel) (aH (lb (jZ (own:=[("column",8)]) rfl nd (cZ (ao (pv 6))) (blkOk_by (N:=["house","day","sorts","p","ways","marks","found","longer","column","mark"]) (sc:=defScope uN) (by decide+kernel)) (fun _ _ _ _ _=>(pg_name (i:=8) nd rfl (Or.inl rfl))) (aP (i:=8)) (by decide) (fun _ _ _ _ _=>Px (iV (qj (vK (a_ F_needs_hold (hr.mono (by decide)) (by rfl) pass0 (aa (ao (pv 0)) (aa (ao (pv 1)) (aa (ao (pv 8)) aC))))) (mY (vK (a_ F_pairs_hold (hr.mono (by decide)) (by rfl) pass0 (aa (ao (pv 0)) (aa (ao (pv 8)) aC)))))))) (fun _ _ _ _ _=>(ao (pv 8))))) aO))))))))))
theorem V2(N_bad: ∀C S,U7 A C S→cM P w K mg base CX0 2 "bad" C S)(N_rules_for: ∀C S,jL A C S→cM P w K mg base CX0 1 "rules_for" C S):OkD P w K mg base CX0 yE "rule_faults" "rule_faults" 3 (bZ K (ig A)):=
 iG (k:=2) yE (by intro ds P h;unfold ig at h;walk_at "ln") (Pb A) fun nd hu hv hr=>(au (jO (i:=3) (fun _ h=>ps_set (i:=3) nd rfl (Or.inl rfl) h) (l_ aC))
 (au (dw PassesOwn.never rfl (fV (by rfl) T.g_range (aH (lb (cP gM (by rfl) T.g_len (by decide+kernel) (aH (ak (pv 1)) aO))) aO)) (pg_name (i:=4) nd rfl (Or.inl rfl)) (aP (i:=4))
 (au (aW (fun _ h=>ps_set (i:=5) nd rfl (Or.inl rfl) h) aP (bj (lb (aK (ak (pv 0)) T.dI)) (ak (pv 4))))
 (au (aW (fun _ h=>ps_set (i:=6) nd rfl (Or.inl rfl) h) aP (zP (lb (bQ (lb (aK (ak (pv 5)) T.aeO)) (lb (zP (lb (bj (ak (pv 1)) (ak (pv 4)))) qR (m7 (bQ (ak (pv 2)) (lb aD))))))) (m7 (xr (lb aD))) qR))
 (az (dw PassesOwn.never rfl (cZ (dH (CX:=CX0) (E:=E0) (ao (pv 0)) N_rules_for (hr.mono (by decide)) pass0 (aa (ao (pv 4)) aC))) (pg_tup rfl (pgs_cons (pg_name (i:=7) nd rfl (Or.inl rfl)) (pgs_cons (pg_name (i:=8) nd rfl (Or.inl rfl)) pgs_nil))) (ql (aQ (aP (i:=7)) (aQ (aP (i:=8)) dZ)))
 (az (dG (vK (dH (CX:=CX0) (E:=E0) (ao (pv 8)) N_bad (hr.mono (by decide)) pass0 (aa (ao (pv 6)) aC)))
 (az (mj (i:=3) (pv 3) (dN (aa (ao (pv 2)) (aa (cY (l:=[114,117,108,101]) (by decide+kernel) (by decide+kernel)) (aa (aK (ak (pv 5)) T.yd) (aa (ao (pv 7)) aC))))) (fun _ h=>pe_bm PySem.F.plainAttrs_list PySem.F.slot_list_append PySem.F.type_list_append mt_append (pv 3) (pa_cons h pa_nil))))
 bF)))))))
 (lQ (i:=3) (az (aU (ao (pv 3)))))))
theorem KJ(H_Hand_cutB:agP P w K mg base "cut" 2 A.cHand (jM A))(N_reach_of: ∀C S,ph A C S→cM P w K mg base CX0 2 "reach_of" C S)(N_rules_for: ∀C S,jL A C S→cM P w K mg base CX0 1 "rules_for" C S):OkD P w K mg base CX0 u_ "__init__" "Hand.__init__" 3 (qu K (fG A)):=
 aDB (k:=2) u_ (by intro ds P h;unfold fG at h;walk_at "ln") (GZ A) fun nd hu hv hr=>(au (Fq (o7 (pv 0)) (aCj (aAI (own:=[("number",3),("rule",4)]) rfl nd (cZ (dH (CX:=CX0) (E:=E0) (ao (pv 1)) N_rules_for (hr.mono (by decide)) pass0 (aa (ao (pv 2)) aC))) (blkOk_by (N:=["self","house","p","number","rule"]) (sc:=defScope qC) (by decide+kernel)) (fun _ _ _ _ _=>(pg_tup rfl (pgs_cons (pg_name (i:=3) nd rfl (Or.inl rfl)) (pgs_cons (pg_name (i:=4) nd rfl (Or.inl rfl)) pgs_nil)))) (ql (aQ (aP (i:=3)) (aQ (aP (i:=4)) dZ))) (by decide) (fun _ _ _ _ _=>dF) (fun _ _ _ _ _=>(ao (pv 4))))) T.Qe)
 (au (Fq (o7 (pv 0)) (agM (xK (lb (dH (CX:=CX0) (E:=E0) (ao (pv 1)) N_reach_of (hr.mono (by decide)) pass0 (aa (ao (pv 2)) aC))) (lb aD))) T.aeN)
 (au (Fq (o7 (pv 0)) (agM (aK (lb (bj (lb (aK (ak (pv 1)) T.dI)) (ak (pv 2)))) T.aaO)) T.aaO)
 (az (Fq (o7 (pv 0)) (ah4 (pv 0) H_Hand_cutB (hr.mono (by decide)) pass0 (aCq (aK (lb (bj (lb (aK (ak (pv 1)) T.dI)) (ak (pv 2)))) T.aeO) aqD)) T.ag4)))))
theorem abe(N_bad: ∀C S,U7 A C S→cM P w K mg base CX0 2 "bad" C S):OkD P w K mg base CX0 Gy "lets" "Hand.lets" 3 (bZ K (mK A)):=
 iG (k:=2) Gy (by intro ds P h;unfold mK at h;walk_at "ln") (X_ A) fun nd hu hv hr=>(au (dG (cG V6 (ak (pv 2)) (lb (aK (ak (pv 0)) T.aaO)))
 (az (aU qZ))
 bF)
 (au (dw PassesOwn.never rfl (cZ (aK (ak (pv 0)) T.Qe)) (pg_name (i:=3) nd rfl (Or.inl rfl)) (aP (i:=3))
 (az (dG (vK (dH (CX:=CX0) (E:=E0) (ao (pv 3)) N_bad (hr.mono (by decide)) pass0 (aa (ao (pv 1)) aC)))
 (az (aU qZ))
 bF)))
 (az (aU qZ))))
theorem afg(F_l_cell_at:FnG P w K mg base "_law_cell_at" 1 (cI A))(F_l_day:FnG P w K mg base "_law_day" 1 (tO A))(M_House:MkG P w K mg base "House" A.cHouse 1 (pF A))(M_Never:MkG P w K mg base "Never" A.cNever 1 (tM A))(M_Person:MkG P w K mg base "Person" A.cPerson 1 (pW A)):OkD P w K mg base CX0 Vl "_law_house" "_law_house" 3 (bZ K (lB A)):=
 iG (k:=2) Vl (by intro ds P h;unfold lB at h;walk_at "ln") (adx A) fun nd hu hv hr=>(au (aW (fun _ h=>ps_set (i:=4) nd rfl (Or.inl rfl) h) aP (cP gM (by rfl) T.g_len (by decide+kernel) (aH (ak (pv 1)) aO)))
 (au (aW (fun _ h=>ps_set (i:=5) nd rfl (Or.inl rfl) h) aP (iD aC))
 (au (dw PassesOwn.never rfl (fV (by rfl) T.g_range (aH (ak (pv 4)) aO)) (pg_name (i:=6) nd rfl (Or.inl rfl)) (aP (i:=6))
 (az (aW (fun _ h=>ps_set (i:=5) nd rfl (Or.inl rfl) h) aP (bQ (ak (pv 5)) (lb (a_ F_l_day (hr.mono (by decide)) (by rfl) pass0 (aa (bj (ak (pv 1)) (ak (pv 6))) (aa (ao (pv 6)) (aa (ao (pv 2)) aC)))))))))
 (au (jO (i:=7) (fun _ h=>ps_set (i:=7) nd rfl (Or.inl rfl) h) (l_ aC))
 (au (dw PassesOwn.never rfl (cZ (zP (ak (pv 0)) (m7 aD) (m7 aD))) (pg_name (i:=8) nd rfl (Or.inl rfl)) (aP (i:=8))
 (az (mj (i:=7) (pv 7) (dN (aa (bj (ak (pv 3)) (lb (gW (ak (pv 8)) (lb (cP gM (by rfl) T.g_len (by decide+kernel) (aH (ak (pv 3)) aO)))))) (aa (gW (lb (pC (ak (pv 8)) (lb aD))) (ak (pv 4))) aC))) (fun _ h=>pe_bm PySem.F.plainAttrs_list PySem.F.slot_list_append PySem.F.type_list_append mt_append (pv 7) (pa_cons h pa_nil)))))
 (au (aW (fun _ h=>ps_set (i:=9) nd rfl (Or.inr rfl) h) aP (gW (lb (a_ F_l_cell_at (hr.mono (by decide)) (by rfl) pass0 (aa (ao (pv 0)) (aa aD aC)))) (lb (avJ (lb aD) (lb aD)))))
 (au (aW (fun _ h=>ps_set (i:=10) nd rfl (Or.inr rfl) h) aP (bj (lb (iD (aa (cY (l:=[]) (by decide+kernel) (by decide+kernel)) (aa (cY (l:=[45]) (by decide+kernel) (by decide+kernel)) (aa (bj (ak (pv 2)) (lb aD)) aC))))) (lb (gW (lb (a_ F_l_cell_at (hr.mono (by decide)) (by rfl) pass0 (aa (ao (pv 0)) (aa aD aC)))) (lb aD)))))
 (au (rC (i:=11) (own:=[("_law_name",12)]) rfl nd rfl rfl (sw_true rfl rfl rfl (by decide+kernel)) (cZ (ao (pv 3))) (blkOk_by (N:=["_law_script","_law_sorts","_law_kinds_here","_law_names_here","_law_days","_law_needs","_law_day_here","_law_leave","_law_cell","_law_carried","_law_past","_law_persons","_law_name","_law_rules","_law_pairs"]) (sc:=defScope JZ) (by decide+kernel)) (fun _ _ _ _ _=>(pg_name (i:=12) nd rfl (Or.inl rfl))) (aP (i:=12)) (by decide) (fun _ _ _ _ _=>dF) (fun _ _ _ _ _=>(jx M_Person (hr.mono (by decide)) (by rfl) pass0 (aa (ao (pv 12)) (aa (ao (pv 2)) (aa aD (aa (bQ (ak (pv 9)) (lb (cP gM (by rfl) T.g_len (by decide+kernel) (aH (ak (pv 12)) aO)))) (aa (ao (pv 10)) aC))))))))
 (au (aW (fun _ h=>ps_set (i:=13) nd rfl (Or.inl rfl) h) aP (iD (aa (dN (aa (bj (lb (iD (aa (cY (l:=[97,108,108]) (by decide+kernel) (by decide+kernel)) (aa (bj (ak (pv 3)) (lb aD)) aC)))) (lb (gW (lb (a_ F_l_cell_at (hr.mono (by decide)) (by rfl) pass0 (aa (ao (pv 0)) (aa aD aC)))) (lb aD)))) (aa (jx M_Never (hr.mono (by decide)) (by rfl) pass0 (aa (bQ (lb (bQ (lb (bj (ak (pv 2)) (lb aD))) (lb (cY (l:=[63]) (by decide+kernel) (by decide+kernel))))) (lb (bj (ak (pv 2)) (lb aD)))) aC)) aC))) aC)))
 (au (aW (fun _ h=>ps_set (i:=14) nd rfl (Or.inl rfl) h) aP (iD (aa (dN (aa (cY (l:=[97,112,97,114,116]) (by decide+kernel) (by decide+kernel)) (aa (bj (ak (pv 3)) (lb aD)) (aa (bj (ak (pv 3)) (lb (xr (lb aD)))) aC)))) aC)))
 (lQ (i:=7) (au (dG (cG (lD hu) (lb (gW (lb (pC (lb (a_ F_l_cell_at (hr.mono (by decide)) (by rfl) pass0 (aa (ao (pv 0)) (aa aD aC)))) (lb aD))) (lb aD))) (lb aD))
 (az (aU (jx M_House (hr.mono (by decide)) (by rfl) pass0 (aa (ao (pv 4)) (aa (ao (pv 2)) (aa (ao (pv 5)) (aa (ao (pv 11)) (aa (ao (pv 7)) (aa (iD aC) (aa (ao (pv 13)) (aa (iD aC) aC)))))))))))
 bF)
 (au (dG (cG (lD hu) (lb (gW (lb (pC (lb (a_ F_l_cell_at (hr.mono (by decide)) (by rfl) pass0 (aa (ao (pv 0)) (aa aD aC)))) (lb aD))) (lb aD))) (lb aD))
 (az (aU (jx M_House (hr.mono (by decide)) (by rfl) pass0 (aa (ao (pv 4)) (aa (ao (pv 2)) (aa (ao (pv 5)) (aa (ao (pv 11)) (aa (ao (pv 7)) (aa (iD aC) (aa (iD aC) (aa (ao (pv 14)) aC)))))))))))
 bF)
 (az (aU (jx M_House (hr.mono (by decide)) (by rfl) pass0 (aa (ao (pv 4)) (aa (ao (pv 2)) (aa (ao (pv 5)) (aa (ao (pv 11)) (aa (ao (pv 7)) (aa (iD aC) (aa (ao (pv 13)) (aa (ao (pv 14)) aC))))))))))))))))))))))))
theorem aiJ(F_leave_faults:FnG P w K mg base "leave_faults" 1 (fZ A))(F_most_faults:FnG P w K mg base "most_faults" 1 (h_ A))(F_need_faults:FnG P w K mg base "need_faults" 2 (ie A))(F_pair_faults:FnG P w K mg base "pair_faults" 2 (ir A))(F_rule_faults:FnG P w K mg base "rule_faults" 3 (ig A))(F_skill_faults:FnG P w K mg base "skill_faults" 1 (fY A)):OkD P w K mg base CX0 YT "faults" "faults" 4 (bZ K (rY A)):=
 iG (k:=3) YT (by intro ds P h;unfold rY at h;walk_at "ln") (aeY A) fun nd hu hv hr=>(au (aW (fun _ h=>ps_set (i:=2) nd rfl (Or.inl rfl) h) aP (iD aC))
 (au (dw PassesOwn.never rfl (fV (by rfl) T.g_range (aH (lb (aK (ak (pv 0)) T.BP)) aO)) (pg_name (i:=3) nd rfl (Or.inl rfl)) (aP (i:=3))
 (au (aW (fun _ h=>ps_set (i:=2) nd rfl (Or.inl rfl) h) aP (bQ (lb (bQ (ak (pv 2)) (lb (a_ F_skill_faults (hr.mono (by decide)) (by rfl) pass0 (aa (ao (pv 0)) (aa (ao (pv 1)) (aa (ao (pv 3)) aC))))))) (lb (a_ F_leave_faults (hr.mono (by decide)) (by rfl) pass0 (aa (ao (pv 0)) (aa (ao (pv 1)) (aa (ao (pv 3)) aC)))))))
 (au (aW (fun _ h=>ps_set (i:=2) nd rfl (Or.inl rfl) h) aP (bQ (lb (bQ (ak (pv 2)) (lb (a_ F_need_faults (hr.mono (by decide)) (by rfl) pass0 (aa (ao (pv 0)) (aa (ao (pv 1)) (aa (ao (pv 3)) aC))))))) (lb (a_ F_most_faults (hr.mono (by decide)) (by rfl) pass0 (aa (ao (pv 0)) (aa (ao (pv 1)) (aa (ao (pv 3)) aC)))))))
 (az (aW (fun _ h=>ps_set (i:=2) nd rfl (Or.inl rfl) h) aP (bQ (lb (bQ (ak (pv 2)) (lb (a_ F_rule_faults (hr.mono (by decide)) (by rfl) pass0 (aa (ao (pv 0)) (aa (ao (pv 1)) (aa (ao (pv 3)) aC))))))) (lb (a_ F_pair_faults (hr.mono (by decide)) (by rfl) pass0 (aa (ao (pv 0)) (aa (ao (pv 1)) (aa (ao (pv 3)) aC)))))))))))
 (az (aU (ao (pv 2))))))
theorem V3(N_cut: ∀C S,ag6 A C S→cM P w K mg base CX0 2 "cut" C S)(N_lets: ∀C S,aaT A C S→cM P w K mg base CX0 3 "lets" C S):OkD P w K mg base CX0 yF "looked" "Hand.looked" 4 (bZ K (jW A)):=
 iG (k:=3) yF (by intro ds P h;unfold jW at h;walk_at "ln") (Ph A) fun nd hu hv hr=>(au (P0 (i:=4) (fun _ h=>ps_set (i:=4) nd rfl (Or.inl rfl) h) ax2)
 (au (dw PassesOwn.never rfl (cZ (ao (pv 3))) (pg_name (i:=5) nd rfl (Or.inl rfl)) (aP (i:=5))
 (au (aW (fun _ h=>ps_set (i:=6) nd rfl (Or.inl rfl) h) aP (bQ (ak (pv 2)) (lb (lE aBl (by rfl) T.g_int (by decide+kernel) (aH (lb (sW (Qz hu) (ak (pv 5)) (lb (cY (l:=[45]) (by decide+kernel) (by decide+kernel))))) aO)))))
 (az (dG (vK (dH (CX:=CX0) (E:=E0) (ao (pv 0)) N_lets (hr.mono (by decide)) pass0 (aa (bQ (ak (pv 1)) (ak (pv 5))) (aa (ao (pv 6)) aC))))
 (az (ahZ hu (o7 (pv 4)) (ao (pv 5)) (aCK (agM (dN (aa (dH (CX:=CX0) (E:=E0) (ao (pv 0)) N_cut (hr.mono (by decide)) pass0 (aa (bQ (ak (pv 1)) (ak (pv 5))) aC)) (aa (ao (pv 6)) aC)))))))
 bF))))
 (Ut (i:=4) (az (aU (ao (pv 4)))))))
theorem afh(F_l_cell_at:FnG P w K mg base "_law_cell_at" 1 (cI A))(M_ChangeCosts:MkG P w K mg base "ChangeCosts" A.cChangeCosts 1 (g_ A))(M_EvenCosts:MkG P w K mg base "EvenCosts" A.cEvenCosts 2 (jK A))(M_LevelCosts:MkG P w K mg base "LevelCosts" A.cLevelCosts 1 (jc A)):OkD P w K mg base CX0 Vm "_law_costs" "_law_costs" 4 (bZ K (lC A)):=
 iG (k:=3) Vm (by intro ds P h;unfold lC at h;walk_at "ln") (ady A) fun nd hu hv hr=>(au (aW (fun _ h=>ps_set (i:=2) nd rfl (Or.inl rfl) h) aP (pC (lb (a_ F_l_cell_at (hr.mono (by decide)) (by rfl) pass0 (aa (ao (pv 0)) (aa aD aC)))) (lb aD)))
 (au (dG (cG (lD hu) (lb (gW (ak (pv 2)) (lb aD))) (lb aD))
 (az (aU (jx M_EvenCosts (hr.mono (by decide)) (by rfl) pass0 (aa (ao (pv 1)) aC))))
 bF)
 (au (dG (cG (lD hu) (lb (gW (ak (pv 2)) (lb aD))) (lb aD))
 (az (aU (jx M_ChangeCosts (hr.mono (by decide)) (by rfl) pass0 (aa (ao (pv 1)) (aa (jZ (own:=[("_law_person",3)]) rfl nd (cZ (aK (ak (pv 1)) T.dI)) (blkOk_by (N:=["_law_script","_law_house_here","_law_cell","_law_person"]) (sc:=defScope J5) (by decide+kernel)) (fun _ _ _ _ _=>(pg_name (i:=3) nd rfl (Or.inl rfl))) (aP (i:=3)) (by decide) (fun _ _ _ _ _=>dF) (fun _ _ _ _ _=>(PQ (lb (cY (l:=[45]) (by decide+kernel) (by decide+kernel))) (lb (aK (ak (pv 1)) T.BP))))) aC)))))
 bF)
 (az (aU (jx M_LevelCosts (hr.mono (by decide)) (by rfl) pass0 (aa (ao (pv 1)) (aa (xK (lb (aK (lb (bj (lb (aK (ak (pv 1)) T.dI)) (lb aD))) T.uO)) (lb aD)) aC))))))))
theorem adL(MT_Hand:MkT P w K mg base "Hand" A.cHand 3 (fG A)):OkD P w K mg base CX0 L_ "hands_of" "hands_of" 5 (bZ K (fU A)):=
 iG (k:=4) L_ (by intro ds P h;unfold fU at h;walk_at "ln") (aa5 A) fun nd hu hv hr=>(az (aU (jZ (own:=[("p",1)]) rfl nd (fV (by rfl) T.g_range (aH (lb (cP gM (by rfl) T.g_len (by decide+kernel) (aH (lb (aK (ak (pv 0)) T.dI)) aO))) aO)) (blkOk_by (N:=["house","p"]) (sc:=defScope BL) (by decide+kernel)) (fun _ _ _ _ _=>(pg_name (i:=1) nd rfl (Or.inl rfl))) (aP (i:=1)) (by decide) (fun _ _ _ _ _=>dF) (fun _ _ _ _ _=>(amj (ami MT_Hand (hr.mono (by decide)) (by rfl) pass0 (aa (ao (pv 0)) (aa (ao (pv 1)) aC))))))))
theorem aoM(F_hands_of:FnG P w K mg base "hands_of" 5 (fU A))(F_step:FnG P w K mg base "step" 2 (ym A))(N_looked: ∀C S,Ge A C S→cM P w K mg base CX0 4 "looked" C S)(N_may: ∀C S,YJ A C S→cM P w K mg base CX0 2 "may" C S)(X_columns:FnX P w K mg base "columns" 3 [false,false] (jD A)):OkD P w K mg base (L2.CX P w) adc "steps" "steps" 6 (uv K [false,false,false,false] (pH A)):=
 azD (ms:=[false,false,false,false]) (k:=5) adc (by intro ds P Xc h;unfold pH at h;walk_at "ln") (aiw A) fun nd hu hv tk hr hE=>(au (jO (i:=4) (fun _ h=>ps_set (i:=4) nd rfl (Or.inl rfl) h) (l_ aC))
 (au (aW (fun _ h=>ps_set (i:=5) nd rfl (Or.inl rfl) h) aP (JM (pP X_columns (hr.mono (by decide)) (by rfl) (fun _ _=>(iQ (ao (pv 0)) (iQ (ao (pv 2)) sY)))) tk hE))
 (au (aW (fun _ h=>ps_set (i:=6) nd rfl (Or.inr rfl) h) aP (a_ F_hands_of (hr.mono (by decide)) (by rfl) pass0 (aa (ao (pv 0)) aC)))
 (au (aW (fun _ h=>ps_set (i:=7) nd rfl (Or.inr rfl) h) aP (jZ (own:=[("p",8)]) rfl nd (fV (by rfl) T.g_range (aH (lb (cP gM (by rfl) T.g_len (by decide+kernel) (aH (ak (pv 6)) aO))) aO)) (blkOk_by (N:=["house","costs","day","page","found","ways","hands","sorts","p","entry","looked","column","made"]) (sc:=defScope Qc) (by decide+kernel)) (fun _ _ _ _ _=>(pg_name (i:=8) nd rfl (Or.inl rfl))) (aP (i:=8)) (by decide) (fun _ _ _ _ _=>dF) (fun _ _ _ _ _=>(bQ (lb (cY (l:=[45]) (by decide+kernel) (by decide+kernel))) (lb (dH (CX:=CX0) (E:=E0) (ao (pv 0)) N_may (hr.mono (by decide)) pass0 (aa (ao (pv 8)) (aa (ao (pv 2)) aC))))))))
 (au (dw (passes_of rfl) rfl (cZ (ao (pv 3))) (pg_name (i:=9) nd rfl (Or.inr rfl)) (aP (i:=9))
 (au (rC (i:=10) (own:=[("p",8)]) rfl nd rfl rfl (sw_true rfl rfl rfl (by decide+kernel)) (fV (by rfl) T.g_range (aH (lb (cP gM (by rfl) T.g_len (by decide+kernel) (aH (ak (pv 6)) aO))) aO)) (blkOk_by (N:=["house","costs","day","page","found","ways","hands","sorts","p","entry","looked","column","made"]) (sc:=defScope Qc) (by decide+kernel)) (fun _ _ _ _ _=>(pg_name (i:=8) nd rfl (Or.inl rfl))) (aP (i:=8)) (by decide) (fun _ _ _ _ _=>dF) (fun _ _ _ _ _=>(dH (CX:=CX0) (E:=E0) (bj (ak (pv 6)) (ak (pv 8))) N_looked (hr.mono (by decide)) pass0 (aa (bj (lb (bj (ak (pv 9)) (lb aD))) (ak (pv 8))) (aa (bj (lb (bj (ak (pv 9)) (lb aD))) (ak (pv 8))) (aa (bj (ak (pv 7)) (ak (pv 8))) aC))))))
 (az (dw (passes_of rfl) rfl (cZ (ao (pv 5))) (pg_name (i:=11) nd rfl (Or.inl rfl)) (aP (i:=11))
 (au (aW (fun _ h=>ps_set (i:=12) nd rfl (Or.inl rfl) h) aP (a_ F_step (hr.mono (by decide)) (by rfl) pass0 (aa (ao (pv 10)) (aa (ao (pv 1)) (aa (ao (pv 2)) (aa (ao (pv 9)) (aa (ao (pv 11)) aC)))))))
 (az (dG (cG afq (ak (pv 12)) (lb Ax))
 (az (mj (i:=4) (pv 4) (dN (aa (ao (pv 9)) (aa (ao (pv 11)) (aa (ao (pv 12)) aC)))) (fun _ h=>pe_bm PySem.F.plainAttrs_list PySem.F.slot_list_append PySem.F.type_list_append mt_append (pv 4) (pa_cons h pa_nil))))
 bF)))))))
 (lQ (i:=4) (az (aU (ao (pv 4))))))))))
theorem Cy(F_lands:FnG P w K mg base "lands" 1 (pJ A))(F_least_costs:FnG P w K mg base "least_costs" 1 (eX A))(X_steps:FnX P w K mg base "steps" 6 [false,false,false,false] (pH A)):OkD P w K mg base CX0 sG "carried_on" "Book.carried_on" 7 (bZ K (gG A)):=
 iG (k:=6) sG (by intro ds P h;unfold gG at h;walk_at "ln") (zM A) fun nd hu hv hr=>(au (dG (cG aDU (lb (bQ (ak (pv 3)) (lb aD))) (lb (cP gM (by rfl) T.g_len (by decide+kernel) (aH (lb (aK (ak (pv 0)) T.vY)) aO))))
 (az (aU qZ))
 bF)
 (au (aW (fun _ h=>ps_set (i:=4) nd rfl (Or.inr rfl) h) aP (a_ F_least_costs (hr.mono (by decide)) (by rfl) pass0 (aa (bj (lb (aK (ak (pv 0)) T.vY)) (lb (bQ (ak (pv 3)) (lb aD)))) aC)))
 (au (aqB rfl rfl ⟨by rfl,by decide,Or.inl T.m_TooWide⟩ T.xm_TooWide (ap5 (fun _ _ _ h=>ps_set (i:=5) nd rfl (Or.inl rfl) h) (aP (i:=5)) (pP X_steps (hr.mono (by decide)) (by rfl) (fun _ _=>(iQ (ao (pv 1)) (iQ (ao (pv 2)) (iQ (ao (pv 3)) (iQ (bj (lb (aK (ak (pv 0)) T.vY)) (ak (pv 3))) sY)))))))
 (fun a C oe pn hm hz hv=>(az (aU qZ))))
 (az (aU (cP (aAy rfl) (by rfl) T.g_all (by decide+kernel) (aH (lb (jZ (own:=[("before",6),("column",7),("entry",8)]) rfl nd (cZ (ao (pv 5))) (blkOk_by (N:=["self","house","costs","day","best","made","before","column","entry"]) (sc:=defScope nO) (by decide+kernel)) (fun _ _ _ _ _=>(pg_tup rfl (pgs_cons (pg_name (i:=6) nd rfl (Or.inl rfl)) (pgs_cons (pg_name (i:=7) nd rfl (Or.inl rfl)) (pgs_cons (pg_name (i:=8) nd rfl (Or.inl rfl)) pgs_nil))))) (ql (aQ (aP (i:=6)) (aQ (aP (i:=7)) (aQ (aP (i:=8)) dZ)))) (by decide) (fun _ _ _ _ _=>dF) (fun _ _ _ _ _=>(a_ F_lands (hr.mono (by decide)) (by rfl) pass0 (aa (ao (pv 4)) (aa (ao (pv 8)) aC)))))) aO)))))))
theorem V4(hW:bG.w=some w)(X_steps:FnX P w K mg base "steps" 6 [false,false,false,false] (pH A)):OkD P w K mg base (L2.CX P w) yG "page_behind" "page_behind" 7 (uv K [false,false,false,false] (fW A)):=
 azD (ms:=[false,false,false,false]) (k:=6) yG (by intro ds P Xc h;unfold fW at h;walk_at "ln") (Pk A) fun nd hu hv tk hr hE=>(au (P0 (i:=4) (fun _ h=>ps_set (i:=4) nd rfl (Or.inl rfl) h) (aaI hW))
 (au (P0 (i:=5) (fun _ h=>ps_set (i:=5) nd rfl (Or.inl rfl) h) (aaI hW))
 (au (dw (passes_of rfl) rfl (cZ (JM (pP X_steps (hr.mono (by decide)) (by rfl) (fun _ _=>(iQ (ao (pv 0)) (iQ (ao (pv 1)) (iQ (ao (pv 2)) (iQ (ao (pv 3)) sY)))))) tk hE)) (pg_tup rfl (pgs_cons (pg_name (i:=6) nd rfl (Or.inl rfl)) (pgs_cons (pg_name (i:=7) nd rfl (Or.inl rfl)) (pgs_cons (pg_name (i:=8) nd rfl (Or.inl rfl)) pgs_nil)))) (ql (aQ (aP (i:=6)) (aQ (aP (i:=7)) (aQ (aP (i:=8)) dZ))))
 (au (aW (fun _ h=>ps_set (i:=9) nd rfl (Or.inl rfl) h) aP (dN (aa (bj (ak (pv 8)) (lb aD)) (aa (bj (ak (pv 8)) (lb aD)) aC))))
 (az (dG (iV (Yk (aib hW hu (ao (pv 9)) (agL (o7 (pv 4)))) (Ht (cG ai8 (lb (bj (ak (pv 8)) (lb aD))) (lb (agY hW hu (agL (o7 (pv 4))) (ao (pv 9))))))))
 (au (JV hW hu (o7 (pv 4)) (ao (pv 9)) (bj (ak (pv 8)) (lb aD)))
 (az (JV hW hu (o7 (pv 5)) (ao (pv 9)) (dN (aa (dN (aa (bj (ak (pv 6)) (lb aD)) (aa (bj (ak (pv 6)) (lb aD)) aC))) (aa (ao (pv 7)) aC))))))
 bF))))
 (au (dG (cG V6 (lb (asL hW (by rfl) T.g_len (agL (o7 (pv 4))))) (lb (afv rfl T.k_MOST_ENTRIES)))
 (az (aco T.x_TooWide rfl tk hE (by rfl)))
 bF)
 (Ut (i:=5) (az (aU (dN (aa (anD hu (by rfl) T.g_sorted (lb (azn (i:=4) (own:=[("key",9),("cost",10)]) hW rfl nd (pv 4) (blkOk_by (N:=["house","costs","day","page","best","ways","entry","column","made","key","cost"]) (sc:=defScope uA) (by decide+kernel)) (fun _ _ _ _ _=>(pg_tup rfl (pgs_cons (pg_name (i:=9) nd rfl (Or.inl rfl)) (pgs_cons (pg_name (i:=10) nd rfl (Or.inl rfl)) pgs_nil)))) (ql (aQ (aP (i:=9)) (aQ (aP (i:=10)) dZ))) (by decide) (fun _ _ _ _ _ _ _=>dF) (fun _ _ _ _ _ _ _=>(dN (aa (bj (ak (pv 9)) (lb aD)) (aa (bj (ak (pv 9)) (lb aD)) (aa (ao (pv 10)) aC)))))))) (aa (ao (pv 5)) aC))))))))))
theorem Yj(F_ended:FnG P w K mg base "ended" 2 (lX A))(F_first_entry:FnG P w K mg base "first_entry" 1 (dY A))(F_hands_of:FnG P w K mg base "hands_of" 5 (fU A))(F_lands:FnG P w K mg base "lands" 1 (pJ A))(F_least_costs:FnG P w K mg base "least_costs" 1 (eX A))(N_carried_on: ∀C S,qX A C S→cM P w K mg base CX0 7 "carried_on" C S):OkD P w K mg base CX0 Av "floor" "Book.floor" 8 (bZ K (jP A)):=
 iG (k:=7) Av (by intro ds P h;unfold jP at h;walk_at "ln") (Vz A) fun nd hu hv hr=>(au (dG (iV (Yk (cG (lD hu) (lb (aK (ak (pv 0)) T.vY)) (lb (iD aC))) (Ht (Zw (vK (a_ F_lands (hr.mono (by decide)) (by rfl) pass0 (aa (a_ F_least_costs (hr.mono (by decide)) (by rfl) pass0 (aa (bj (lb (aK (ak (pv 0)) T.vY)) (lb aD)) aC)) (aa (a_ F_first_entry (hr.mono (by decide)) (by rfl) pass0 (aa (a_ F_hands_of (hr.mono (by decide)) (by rfl) pass0 (aa (ao (pv 1)) aC)) aC)) aC))))))))
 (az (aU aD))
 bF)
 (au (dw PassesOwn.never rfl (fV (by rfl) T.g_range (aH (lb (aK (ak (pv 1)) T.BP)) aO)) (pg_name (i:=3) nd rfl (Or.inl rfl)) (aP (i:=3))
 (au (dG (cG (lD hu) (lb (bj (lb (aK (ak (pv 0)) T.vY)) (ak (pv 3)))) (lb (iD aC)))
 (az (aU Ax))
 bF)
 (az (dG (Zw (vK (dH (CX:=CX0) (E:=E0) (ao (pv 0)) N_carried_on (hr.mono (by decide)) pass0 (aa (ao (pv 1)) (aa (ao (pv 2)) (aa (ao (pv 3)) aC))))))
 (az (aU aD))
 bF))))
 (az (aU (anI hu rfl (by rfl) T.g_min (lb (jZ (own:=[("entry",4)]) rfl nd (cZ (bj (lb (aK (ak (pv 0)) T.vY)) (lb (aK (ak (pv 1)) T.BP)))) (blkOk_by (N:=["self","house","costs","day","entry"]) (sc:=defScope vX) (by decide+kernel)) (fun _ _ _ _ _=>(pg_name (i:=4) nd rfl (Or.inl rfl))) (aP (i:=4)) (by decide) (fun _ _ _ _ _=>dF) (fun _ _ _ _ _=>(a_ F_ended (hr.mono (by decide)) (by rfl) pass0 (aa (ao (pv 2)) (aa (ao (pv 4)) aC)))))) Ax)))))
theorem KN(F_ended:FnG P w K mg base "ended" 2 (lX A))(F_first_entry:FnG P w K mg base "first_entry" 1 (dY A))(F_hands_of:FnG P w K mg base "hands_of" 5 (fU A))(F_rota_back:FnG P w K mg base "rota_back" 1 (jg A))(M_Book:MkG P w K mg base "Book" A.cBook 1 (qF A))(M_Found:MkG P w K mg base "Found" A.cFound 1 (qW A))(M_Without:MkG P w K mg base "Without" A.cWithout 1 (lw A))(X_page_behind:FnX P w K mg base "page_behind" 7 [false,false,false,false] (fW A)){f:Addr}{cdv:Value}(LO:agV base mg cdv (("least_by_book":Str)++".<locals>."++"<lambda>"))(Ar:Around)(outer:List Env)(s:Shared)(H:Hp)(E:XK)(F0:Hp)(Xc:XC)(hr:YG 7 "least_by_book" cA f cdv Ar s)(hE:ad6 K F0 H (fun cls d _ H=>E cls d H) Xc):LSs (cxX P w K mg base ["house","costs","pages","ways","page","kept","last"] "least_by_book" cA f cdv Ar outer s H E) F0 H (defBody cA) (qG A Xc):=by
 have tk:Takes (cxX P w K mg base ["house","costs","pages","ways","page","kept","last"] "least_by_book" cA f cdv Ar outer s H E) (fun cls d _ H=>E cls d H):=takes_of rfl rfl rfl rfl
 have nd:=vf.nd
 have hu:(cxX P w K mg base ["house","costs","pages","ways","page","kept","last"] "least_by_book" cA f cdv Ar outer s H E).A.units+64<cLine:=hr.units
 have hv:(cxX P w K mg base ["house","costs","pages","ways","page","kept","last"] "least_by_book" cA f cdv Ar outer s H E).A.units+65<cLine:=abu hr
 exact (au (jO (i:=2) (fun _ h=>ps_set (i:=2) nd rfl (Or.inl rfl) h) (l_ (aa (iD (aa (a_ F_first_entry (hr.mono (by decide)) (by rfl) pass0 (aa (a_ F_hands_of (hr.mono (by decide)) (by rfl) pass0 (aa (ao (pv 0)) aC)) aC)) aC)) aC)))
 (au (jO (i:=3) (fun _ h=>ps_set (i:=3) nd rfl (Or.inl rfl) h) (l_ aC))
 (au (ai1 (passes_of rfl) (iV (qj (cG aAs (lb (cP gM (by rfl) T.g_len (by decide+kernel) (aH (ak (pv 2)) aO))) (lb (aK (ak (pv 0)) T.BP))) (mY (cG (Qz hu) (lb (bj (ak (pv 2)) (lb (xr (lb aD))))) (lb (iD aC))))))
 (au (aW (fun _ h=>ps_asg h (pg_tup rfl (pgs_cons (pg_name (i:=4) nd rfl (Or.inl rfl)) (pgs_cons (pg_name (i:=5) nd rfl (Or.inl rfl)) pgs_nil)))) (ql (aQ (aP (i:=4)) (aQ (aP (i:=5)) dZ))) (JM (pP X_page_behind (hr.mono (by decide)) (by rfl) (fun _ _=>(iQ (ao (pv 0)) (iQ (ao (pv 1)) (iQ (cP gM (by rfl) T.g_len (by decide+kernel) (aH (ak (pv 3)) aO)) (iQ (bj (ak (pv 2)) (lb (xr (lb aD)))) sY)))))) tk hE))
 (au (mj (i:=2) (pv 2) (ao (pv 4)) (fun _ h=>pe_bm PySem.F.plainAttrs_list PySem.F.slot_list_append PySem.F.type_list_append mt_append (pv 2) (pa_cons h pa_nil)))
 (az (mj (i:=3) (pv 3) (ao (pv 5)) (fun _ h=>pe_bm PySem.F.plainAttrs_list PySem.F.slot_list_append PySem.F.type_list_append mt_append (pv 3) (pa_cons h pa_nil)))))))
 (lQ (i:=2) (au (dG (cG (lD hu) (lb (bj (ak (pv 2)) (lb (xr (lb aD))))) (lb (iD aC)))
 (az (aU (jx M_Without (hr.mono (by decide)) (by rfl) pass0 (aa (jx M_Book (hr.mono (by decide)) (by rfl) pass0 (aa (ao (pv 2)) aC)) aC))))
 bF)
 (au (aW (fun _ h=>ps_set (i:=6) nd rfl (Or.inl rfl) h) aP (aeA (a:="entry") (k:=2) LO (by rfl) T.g_min (bj (ak (pv 2)) (lb (xr (lb aD)))) (hr.mono (by decide)) (amN (show aen (defScope cA) _ _=true by decide+kernel)) (show ("entry":Str)∉(["house","costs","pages","ways","page","kept","last"]:List Str) by decide) (by rfl) (fun _ _ _ _ _ _=>rfl) (fun _ _ _ _ _ _ hr=>have hu:=hr.units;(a_ F_ended (hr.mono (by decide)) (by rfl) pass0 (aa (ao (pv 1)) (aa (ao (pv 7)) aC))))))
 (lQ (i:=3) (az (aU (jx M_Found (hr.mono (by decide)) (by rfl) pass0 (aa (a_ F_rota_back (hr.mono (by decide)) (by rfl) pass0 (aa (ao (pv 0)) (aa (dN (aa (bj (ak (pv 6)) (lb aD)) (aa (bj (ak (pv 6)) (lb aD)) aC))) (aa (ao (pv 3)) aC)))) (aa (a_ F_ended (hr.mono (by decide)) (by rfl) pass0 (aa (ao (pv 1)) (aa (ao (pv 6)) aC))) (aa (jx M_Book (hr.mono (by decide)) (by rfl) pass0 (aa (ao (pv 2)) aC)) aC)))))))))))))
theorem KQ(F_ended:FnG P w K mg base "ended" 2 (lX A))(F_first_entry:FnG P w K mg base "first_entry" 1 (dY A))(F_hands_of:FnG P w K mg base "hands_of" 5 (fU A))(F_rota_back:FnG P w K mg base "rota_back" 1 (jg A))(M_Book:MkG P w K mg base "Book" A.cBook 1 (qF A))(M_Found:MkG P w K mg base "Found" A.cFound 1 (qW A))(M_Without:MkG P w K mg base "Without" A.cWithout 1 (lw A))(X_page_behind:FnX P w K mg base "page_behind" 7 [false,false,false,false] (fW A)){f:Addr}{fd:FuncData}{cdv:Value}(F:aex K "least_by_book" "least_by_book" cA f fd cdv)(LO:agV base mg cdv (("least_by_book":Str)++".<locals>."++"<lambda>")):FnOk P w K mg base (L2.CX P w) 8 f fd ["house","costs"] (uv K [false,false] (cC A)):=
 as5 (ms:=[false,false]) F vf (by
  intro ds P Xc h
  unfold cC at h
  split at h<;>first|rfl|exact False.elim h) (fun Ar outer s H E F0 Xc hr hE=>KN T F_ended F_first_entry F_hands_of F_rota_back M_Book M_Found M_Without X_page_behind LO Ar outer s H E F0 Xc hr hE) (G7 A)
theorem abf(X_least_by_book:FnX P w K mg base "least_by_book" 8 [false,false] (cC A)):OkD P w K mg base CX0 GD "_law_refused" "_law_refused" 9 (bZ K (ji A)):=
 iG (k:=8) GD (by intro ds P h;unfold ji at h;walk_at "ln") (Ye A) fun nd hu hv hr=>(au (ap6 (i:=2) rfl rfl nd rfl rfl ⟨by rfl,by decide,Or.inl T.m_RotaError⟩ T.xm_RotaError (alv (pP X_least_by_book (hr.mono (by decide)) (by rfl) (fun _ _=>(iQ (ao (pv 0)) (iQ (ao (pv 1)) sY)))))
 (fun a C oe pn hm hz hv=>(az (aU (Qu (aly T.kx T.kb hz hv (by rfl) T.g_isinstance (by decide+kernel) (ao (pv 2)) (ZC T.m_TooWide rfl) (T.ec C hm)) (Qt (avv (aly T.kx T.kb hz hv (by rfl) T.g_isinstance (by decide+kernel) (ao (pv 2)) (ZC T.m_Faulty rfl) (T.ec C hm)))))))))
 (az (aU qZ)))
theorem KR(M_Book:MkG P w K mg base "Book" A.cBook 1 (qF A))(N_floor: ∀C S,qY A C S→cM P w K mg base CX0 8 "floor" C S)(N_reach_of: ∀C S,ph A C S→cM P w K mg base CX0 2 "reach_of" C S):OkD P w K mg base CX0 vg "_law_quiet_floor" "_law_quiet_floor" 9 (bZ K (dB A)):=
 iG (k:=8) vg (by intro ds P h;unfold dB at h;walk_at "ln") (Hg A) fun nd hu hv hr=>(au (rC (i:=2) (own:=[("_law_p",3)]) rfl nd rfl rfl (sw_true rfl rfl rfl (by decide+kernel)) (fV (by rfl) T.g_range (aH (lb (cP gM (by rfl) T.g_len (by decide+kernel) (aH (lb (aK (ak (pv 0)) T.dI)) aO))) aO)) (blkOk_by (N:=["_law_house_here","_law_costs_here","_law_reaches","_law_p","_law_pages","_law_day_here","_law_tails","_law_marks"]) (sc:=defScope lW) (by decide+kernel)) (fun _ _ _ _ _=>(pg_name (i:=3) nd rfl (Or.inl rfl))) (aP (i:=3)) (by decide) (fun _ _ _ _ _=>dF) (fun _ _ _ _ _=>(xK (lb (dH (CX:=CX0) (E:=E0) (ao (pv 0)) N_reach_of (hr.mono (by decide)) pass0 (aa (ao (pv 3)) aC))) (lb aD))))
 (au (jO (i:=4) (fun _ h=>ps_set (i:=4) nd rfl (Or.inl rfl) h) (l_ aC))
 (au (dw PassesOwn.never rfl (fV (by rfl) T.g_range (aH (lb (bQ (lb (aK (ak (pv 0)) T.BP)) (lb aD))) aO)) (pg_name (i:=5) nd rfl (Or.inl rfl)) (aP (i:=5))
 (au (jO (i:=6) (fun _ h=>ps_set (i:=6) nd rfl (Or.inl rfl) h) (l_ aC))
 (au (dw PassesOwn.never rfl (fV (by rfl) T.g_range (aH (lb (cP gM (by rfl) T.g_len (by decide+kernel) (aH (ak (pv 2)) aO))) aO)) (pg_name (i:=3) nd rfl (Or.inl rfl)) (aP (i:=3))
 (au (aW (fun _ h=>ps_set (i:=7) nd rfl (Or.inl rfl) h) aP (bQ (lb (aK (lb (bj (lb (aK (ak (pv 0)) T.dI)) (ak (pv 3)))) T.aeO)) (lb (PQ (lb (cY (l:=[45]) (by decide+kernel) (by decide+kernel))) (ak (pv 5))))))
 (az (mj (i:=6) (pv 6) (zP (ak (pv 7)) (m7 (cP (adU rfl) (by rfl) T.g_max (by decide+kernel) (aH (lb aD) (aH (lb (xK (lb (cP gM (by rfl) T.g_len (by decide+kernel) (aH (ak (pv 7)) aO))) (lb (bj (ak (pv 2)) (ak (pv 3)))))) aO)))) qR) (fun _ h=>pe_bm PySem.F.plainAttrs_list PySem.F.slot_list_append PySem.F.type_list_append mt_append (pv 6) (pa_cons h pa_nil))))))
 (az (mj (i:=4) (pv 4) (iD (aa (dN (aa (lE za (by rfl) T.g_tuple (by decide+kernel) (aH (ak (pv 6)) aO)) (aa (lE za (by rfl) T.g_tuple (by decide+kernel) (aH (lb (jZ (own:=[("_law_p",3)]) rfl nd (cZ (ao (pv 2))) (blkOk_by (N:=["_law_house_here","_law_costs_here","_law_reaches","_law_p","_law_pages","_law_day_here","_law_tails","_law_marks"]) (sc:=defScope lW) (by decide+kernel)) (fun _ _ _ _ _=>(pg_name (i:=3) nd rfl (Or.inl rfl))) (aP (i:=3)) (by decide) (fun _ _ _ _ _=>dF) (fun _ _ _ _ _=>aD))) aO)) (aa aD aC)))) aC)) (fun _ h=>pe_bm PySem.F.plainAttrs_list PySem.F.slot_list_append PySem.F.type_list_append mt_append (pv 4) (pa_cons h pa_nil)))))))
 (lQ (i:=4) (az (aU (dH (CX:=CX0) (E:=E0) (jx M_Book (hr.mono (by decide)) (by rfl) pass0 (aa (ao (pv 4)) aC)) N_floor (hr.mono (by decide)) pass0 (aa (ao (pv 0)) (aa (ao (pv 1)) aC)))))))))
theorem aAb(F_l_cell_at:FnG P w K mg base "_law_cell_at" 1 (cI A))(F_l_costs:FnG P w K mg base "_law_costs" 4 (lC A))(F_l_house:FnG P w K mg base "_law_house" 3 (lB A))(F_l_kinds:FnG P w K mg base "_law_kinds" 1 (mQ A))(F_l_names:FnG P w K mg base "_law_names" 1 (mO A))(F_l_product:FnG P w K mg base "_law_product" 1 (jh A))(F_l_quiet_floor:FnG P w K mg base "_law_quiet_floor" 9 (dB A))(F_l_refused:FnG P w K mg base "_law_refused" 9 (ji A))(F_total_of:FnG P w K mg base "total_of" 2 (jk A))(N_floor: ∀C S,qY A C S→cM P w K mg base CX0 8 "floor" C S)(X_columns:FnX P w K mg base "columns" 3 [false,false] (jD A))(X_least_by_book:FnX P w K mg base "least_by_book" 8 [false,false] (cC A)):OkD P w K mg base CX0 an3 "law" "law" 10 (bZ K (ac1 A)):=
 iG (k:=9) an3 (by intro ds P h;unfold ac1 pN at h;walk_at "ln") (atr A) fun nd hu hv hr=>(au (aW (fun _ h=>ps_set (i:=1) nd rfl (Or.inl rfl) h) aP (a_ F_l_cell_at (hr.mono (by decide)) (by rfl) pass0 (aa (ao (pv 0)) (aa aD aC))))
 (au (aW (fun _ h=>ps_set (i:=2) nd rfl (Or.inl rfl) h) aP (a_ F_l_kinds (hr.mono (by decide)) (by rfl) pass0 (aa (a_ F_l_cell_at (hr.mono (by decide)) (by rfl) pass0 (aa (ao (pv 0)) (aa aD aC))) (aa (bQ (lb aD) (lb (gW (ak (pv 1)) (lb aD)))) aC))))
 (au (aW (fun _ h=>ps_set (i:=3) nd rfl (Or.inl rfl) h) aP (a_ F_l_names (hr.mono (by decide)) (by rfl) pass0 (aa (a_ F_l_cell_at (hr.mono (by decide)) (by rfl) pass0 (aa (ao (pv 0)) (aa aD aC))) (aa (bQ (lb aD) (lb (gW (lb (pC (ak (pv 1)) (lb aD))) (lb aD)))) aC))))
 (au (aW (fun _ h=>ps_set (i:=4) nd rfl (Or.inr rfl) h) aP (jZ (own:=[("_law_k",5)]) rfl nd (fV (by rfl) T.g_range (aH (lb (bQ (lb aD) (lb (gW (lb (pC (ak (pv 1)) (lb aD))) (lb aD))))) aO)) (blkOk_by (N:=["_law_script","_law_cell","_law_kinds_here","_law_names_here","_law_sorts","_law_k","_law_number","_law_house_here","_law_costs_here","_law_day_here","_law_ways","_law_answer","_law_name","_law_floor"]) (sc:=defScope yc) (by decide+kernel)) (fun _ _ _ _ _=>(pg_name (i:=5) nd rfl (Or.inl rfl))) (aP (i:=5)) (by decide) (fun _ _ _ _ _=>dF) (fun _ _ _ _ _=>(a_ F_l_cell_at (hr.mono (by decide)) (by rfl) pass0 (aa (ao (pv 0)) (aa (bQ (lb aD) (ak (pv 5))) aC))))))
 (au (dG (cG (lD hu) (lb (gW (lb (pC (ak (pv 1)) (lb aD))) (lb aD))) (lb aD))
 (az (aW (fun _ h=>ps_set (i:=4) nd rfl (Or.inr rfl) h) aP (bQ (lb (jZ (own:=[("_law_number",6)]) rfl nd (cZ (zP (ak (pv 4)) qR (m7 (xr (lb aD))))) (blkOk_by (N:=["_law_script","_law_cell","_law_kinds_here","_law_names_here","_law_sorts","_law_k","_law_number","_law_house_here","_law_costs_here","_law_day_here","_law_ways","_law_answer","_law_name","_law_floor"]) (sc:=defScope yc) (by decide+kernel)) (fun _ _ _ _ _=>(pg_name (i:=6) nd rfl (Or.inl rfl))) (aP (i:=6)) (by decide) (fun _ _ _ _ _=>dF) (fun _ _ _ _ _=>(bQ (lb aD) (lb (gW (lb (gW (ak (pv 6)) (lb aD))) (lb aD))))))) (lb (iD (aa aD aC))))))
 bF)
 (au (aW (fun _ h=>ps_set (i:=7) nd rfl (Or.inl rfl) h) aP (a_ F_l_house (hr.mono (by decide)) (by rfl) pass0 (aa (ao (pv 0)) (aa (ao (pv 4)) (aa (ao (pv 2)) (aa (ao (pv 3)) aC))))))
 (au (aW (fun _ h=>ps_set (i:=8) nd rfl (Or.inl rfl) h) aP (a_ F_l_costs (hr.mono (by decide)) (by rfl) pass0 (aa (ao (pv 0)) (aa (ao (pv 7)) aC))))
 (au (dw PassesOwn.never rfl (fV (by rfl) T.g_range (aH (lb (cP gM (by rfl) T.g_len (by decide+kernel) (aH (ak (pv 4)) aO))) aO)) (pg_name (i:=9) nd rfl (Or.inl rfl)) (aP (i:=9))
 (au (aW (fun _ h=>ps_set (i:=10) nd rfl (Or.inl rfl) h) aP (a_ F_l_product (hr.mono (by decide)) (by rfl) pass0 (aa (ao (pv 7)) (aa (ao (pv 3)) (aa (ao (pv 9)) (aa (aK (ak (pv 7)) T.aaN) aC))))))
 (au (dG (cG (lD hu) (lb (gW (lb (bj (ak (pv 4)) (ak (pv 9)))) (lb aD))) (lb aD))
 (au (aW (fun _ h=>ps_set (i:=11) nd rfl (Or.inl rfl) h) aP (JM (pP X_least_by_book (hr.mono (by decide)) (by rfl) (fun _ _=>(iQ (ao (pv 7)) (iQ (ao (pv 8)) sY)))) takes0 alr))
 (az (aU (Qu (cP (akR T.kin) (by rfl) T.g_isinstance (by decide+kernel) (aH (ak (pv 11)) (aH (lb (ZC T.m_Without rfl)) aO))) (Qt (sW aAt (lb (dH (CX:=CX0) (E:=E0) (aK (ak (pv 11)) T.as9) N_floor (hr.mono (by decide)) pass0 (aa (ao (pv 7)) (aa (ao (pv 8)) aC)))) (lb Ax)))))))
 bF)
 (au (dG (cG V6 (ak (pv 10)) (lb aD))
 (az (aU (Qu (a_ F_l_refused (hr.mono (by decide)) (by rfl) pass0 (aa (ao (pv 7)) (aa (ao (pv 8)) aC))) (Qt (sW (lD hu) (lb (a_ F_l_quiet_floor (hr.mono (by decide)) (by rfl) pass0 (aa (ao (pv 7)) (aa (ao (pv 8)) aC)))) (lb aD))))))
 bF)
 (az (dG (cG V6 (ak (pv 10)) (lb aD))
 (az (aU (sW aAu (lb (PQ (lb (cY (l:=[45]) (by decide+kernel) (by decide+kernel))) (lb (cP gM (by rfl) T.g_len (by decide+kernel) (aH (ak (pv 3)) aO))))) (lb (JM (pP X_columns (hr.mono (by decide)) (by rfl) (fun _ _=>(iQ (ao (pv 7)) (iQ (ao (pv 9)) sY)))) takes0 alr)))))
 bF))))))
 (au (aW (fun _ h=>ps_set (i:=11) nd rfl (Or.inl rfl) h) aP (JM (pP X_least_by_book (hr.mono (by decide)) (by rfl) (fun _ _=>(iQ (ao (pv 7)) (iQ (ao (pv 8)) sY)))) takes0 alr))
 (au (dG (iV (Yk (Zw (vK (cP (akR T.kin) (by rfl) T.g_isinstance (by decide+kernel) (aH (ak (pv 11)) (aH (lb (ZC T.m_Found rfl)) aO))))) (Ht (cG (Qz hu) (lb (aK (ak (pv 11)) T.aeP)) (lb (jZ (own:=[("_law_name",12)]) rfl nd (cZ (ao (pv 3))) (blkOk_by (N:=["_law_script","_law_cell","_law_kinds_here","_law_names_here","_law_sorts","_law_k","_law_number","_law_house_here","_law_costs_here","_law_day_here","_law_ways","_law_answer","_law_name","_law_floor"]) (sc:=defScope yc) (by decide+kernel)) (fun _ _ _ _ _=>(pg_name (i:=12) nd rfl (Or.inl rfl))) (aP (i:=12)) (by decide) (fun _ _ _ _ _=>dF) (fun _ _ _ _ _=>(PQ (lb (cY (l:=[45]) (by decide+kernel) (by decide+kernel))) (lb (cP gM (by rfl) T.g_len (by decide+kernel) (aH (ak (pv 4)) aO)))))))))))
 (az (aU qZ))
 bF)
 (au (aW (fun _ h=>ps_set (i:=13) nd rfl (Or.inl rfl) h) aP (a_ F_l_quiet_floor (hr.mono (by decide)) (by rfl) pass0 (aa (ao (pv 7)) (aa (ao (pv 8)) aC))))
 (az (aU (Qu (sW (lD hu) (lb (aK (ak (pv 11)) T.f_total)) (lb (a_ F_total_of (hr.mono (by decide)) (by rfl) pass0 (aa (ao (pv 7)) (aa (ao (pv 8)) (aa (aK (ak (pv 11)) T.aeP) aC)))))) (Qt (sW (lD hu) (ak (pv 13)) (lb (aK (ak (pv 11)) T.f_total))))))))))))))))))
end
theorem aAc{l:PySem.W.OpenLaw}{w:World}{K:PySem.W.Frag}{h:Heap}{mg:Str→Option Value}{fa f0 f1 f2 f3 f4 f5 f6 f7 f8 f9 f10 f11 f12 f13 f14 f15 f16 f17 f18 f19 f20 f21 f22 f23 f24 f25 f26 f27 f28 f29 f30 f31 f32 f33 f34 f35 f36 f37 f38 f39 f40 f41 f42 f43 f44 f45 f46 f47 f48 f49 f50 f51 f52 f53 f54 f55 f56 f57 f58 f59 f60 f61 f62 f63 f64 cc59 PP59:Addr}(A:Ad)(X:K.In h)(G:h.Ns mainGlobals mg)(hfa:mg "law"=some (.ref fa))
  {od59 an59:Option Addr} {sl59:Array (Option Value)} {oc59 kV59 dc59 pm59 cd59 ct59:Value}
  {od64 an64:Option Addr} {sl64:Array (Option Value)} {oc64 kV64 dc64 pm64 cd64 ct64:Value}
  (aC_RotaError:NsA K "RotaError" A.cRotaError)
  (aC_NoName:NsA K "NoName" A.cNoName)
  (aC_TooWide:NsA K "TooWide" A.cTooWide)
  (aC_Faulty:NsA K "Faulty" A.cFaulty)
  (aC_Costs:NsA K "Costs" A.cCosts)
  (aC_EvenCosts:NsA K "EvenCosts" A.cEvenCosts)
  (aC_ChangeCosts:NsA K "ChangeCosts" A.cChangeCosts)
  (aC_LevelCosts:NsA K "LevelCosts" A.cLevelCosts)
  (aC_Paper:NsA K "Paper" A.cPaper)
  (aC_Answer:NsA K "Answer" A.cAnswer)
  (aC_Found:NsA K "Found" A.cFound)
  (aC_Without:NsA K "Without" A.cWithout)
  (aC_Rule:NsA K "Rule" A.cRule)
  (aC_Never:NsA K "Never" A.cNever)
  (aC_Hand:NsA K "Hand" A.cHand)
  (aC_Book:NsA K "Book" A.cBook)
  (aC_Person:NsA K "Person" A.cPerson)
  (aC_House:NsA K "House" A.cHouse)
  (e0:MtA K A.cCosts "of_count" f0 "Costs.of_count" uI)
  (e1:MtA K A.cCosts "of_mark" f1 "Costs.of_mark" wG)
  (e2:MtA K A.cEvenCosts "of_count" f2 "EvenCosts.of_count" pU)
  (e3:MtA K A.cEvenCosts "of_mark" f3 "EvenCosts.of_mark" qL)
  (e4:MtA K A.cChangeCosts "__init__" f4 "ChangeCosts.__init__" nM)
  (e5:MtA K A.cChangeCosts "of_mark" f5 "ChangeCosts.of_mark" oH)
  (e6:MtA K A.cLevelCosts "__init__" f6 "LevelCosts.__init__" jX)
  (e7:MtA K A.cLevelCosts "of_count" f7 "LevelCosts.of_count" oJ)
  (e8:FnA K "skill_faults" f8 "skill_faults" xY)
  (e9:FnA K "leave_faults" f9 "leave_faults" xZ)
  (e10:FnA K "most_faults" f10 "most_faults" ux)
  (e11:MtA K A.cPaper "floor" f11 "Paper.floor" Xy)
  (e12:MtA K A.cFound "__init__" f12 "Found.__init__" uJ)
  (e13:MtA K A.cWithout "__init__" f13 "Without.__init__" rR)
  (e14:FnA K "fits" f14 "fits" anO)
  (e15:FnA K "last_of" f15 "last_of" YH)
  (e16:MtA K A.cNever "__init__" f16 "Never.__init__" uK)
  (e17:MtA K A.cNever "reach" f17 "Never.reach" zX)
  (e18:FnA K "first_entry" f18 "first_entry" pD)
  (e19:FnA K "least_costs" f19 "least_costs" zY)
  (e20:FnA K "lands" f20 "lands" ag1)
  (e21:MtA K A.cBook "__init__" f21 "Book.__init__" qw)
  (e22:FnA K "rota_back" f22 "rota_back" tH)
  (e23:MtA K A.cPerson "__init__" f23 "Person.__init__" tK)
  (e24:MtA K A.cHouse "__init__" f24 "House.__init__" uL)
  (e25:MtA K A.cHouse "need" f25 "House.need" Fx)
  (e26:MtA K A.cHouse "place_of" f26 "House.place_of" uM)
  (e27:MtA K A.cHouse "rules_for" f27 "House.rules_for" tL)
  (e28:FnA K "_law_cell_at" f28 "_law_cell_at" Ld)
  (e29:FnA K "_law_names" f29 "_law_names" JW)
  (e30:FnA K "_law_kinds" f30 "_law_kinds" JX)
  (e31:FnA K "_law_day" f31 "_law_day" aaK)
  (e32:FnA K "_law_product" f32 "_law_product" x_)
  (e33:FnA K "needs_hold" f33 "needs_hold" Fy)
  (e34:FnA K "pairs_hold" f34 "pairs_hold" FJ)
  (e35:MtA K A.cEvenCosts "__init__" f35 "EvenCosts.__init__" iZ)
  (e36:FnA K "total_of" f36 "total_of" U3)
  (e37:FnA K "need_faults" f37 "need_faults" uz)
  (e38:FnA K "pair_faults" f38 "pair_faults" z7)
  (e39:MtA K A.cNever "bad" f39 "Never.bad" Le)
  (e40:MtA K A.cHand "cut" f40 "Hand.cut" U4)
  (e41:FnA K "step" f41 "step" anP)
  (e42:FnA K "ended" f42 "ended" ag3)
  (e43:MtA K A.cHouse "may" f43 "House.may" Lf)
  (e44:MtA K A.cHouse "reach_of" f44 "House.reach_of" o9)
  (e45:MtA K A.cHand "cut" f45 "Hand.cut" Lg)
  (e46:FnA K "columns" f46 "columns" uN)
  (e47:FnA K "rule_faults" f47 "rule_faults" z8)
  (e48:MtA K A.cHand "__init__" f48 "Hand.__init__" qC)
  (e49:MtA K A.cHand "lets" f49 "Hand.lets" Lh)
  (e50:FnA K "_law_house" f50 "_law_house" JZ)
  (e51:FnA K "faults" f51 "faults" acQ)
  (e52:MtA K A.cHand "looked" f52 "Hand.looked" z9)
  (e53:FnA K "_law_costs" f53 "_law_costs" J5)
  (e54:FnA K "hands_of" f54 "hands_of" BL)
  (e55:FnA K "steps" f55 "steps" Qc)
  (e56:MtA K A.cBook "carried_on" f56 "Book.carried_on" nO)
  (e57:FnA K "page_behind" f57 "page_behind" uA)
  (e58:MtA K A.cBook "floor" f58 "Book.floor" vX)
  (a59:PySem.W.nsIn K mainGlobals "least_by_book"=some (some (.ref f59)))
  (l59:K.lookup f59=some ⟨oc59,od59, .func (PySem.W.fnOf "least_by_book" "least_by_book" (defArgs cA) (defBody cA) (defScope cA) .none kV59 dc59 pm59 an59 cd59 ct59),sl59⟩)
  (c59:PySem.W.codeIn K cd59 "least_by_book"=true)
  (k59:PySem.W.keepIn K (.ref f59)=true)
  (e60:MtA K A.cFound "stands" f60 "Found.stands" U5)
  (e61:MtA K A.cWithout "stands" f61 "Without.stands" J8)
  (e62:FnA K "_law_refused" f62 "_law_refused" Lj)
  (e63:FnA K "_law_quiet_floor" f63 "_law_quiet_floor" lW)
  (a64:PySem.W.nsIn K mainGlobals "law"=some (some (.ref f64)))
  (l64:K.lookup f64=some ⟨oc64,od64, .func (PySem.W.fnOf "law" "law" (defArgs yc) (defBody yc) (defScope yc) .none kV64 dc64 pm64 an64 cd64 ct64),sl64⟩)
  (c64:PySem.W.codeIn K cd64 "law"=true)
  (k64:PySem.W.keepIn K (.ref f64)=true)
  (ht59:h.get? PP59=some (PySem.W.tabObj #[]))
  (hn59:K.lookup PP59=none)
  (hq59:cd59= .ref cc59)
  (hc59:PySem.W.codeHdIn K cc59 PP59=true)
  (h_ChangeCosts_of_count:FdA K A.cChangeCosts "of_count" f0)
  (h_LevelCosts_of_mark:FdA K A.cLevelCosts "of_mark" f1)
  (mq_Book:MkA K A.cBook)
  (mq_ChangeCosts:MkA K A.cChangeCosts)
  (mq_EvenCosts:MkA K A.cEvenCosts)
  (mq_Found:MkA K A.cFound)
  (mq_Hand:MkA K A.cHand)
  (mq_House:MkA K A.cHouse)
  (mq_LevelCosts:MkA K A.cLevelCosts)
  (mq_Never:MkA K A.cNever)
  (mq_Person:MkA K A.cPerson)
  (mq_Without:MkA K A.cWithout)
  (cl_Book:Cls K A.cBook)
  (cl_ChangeCosts:Cls K A.cChangeCosts)
  (cl_Costs:Cls K A.cCosts)
  (cl_EvenCosts:Cls K A.cEvenCosts)
  (cl_Found:Cls K A.cFound)
  (cl_Hand:Cls K A.cHand)
  (cl_House:Cls K A.cHouse)
  (cl_LevelCosts:Cls K A.cLevelCosts)
  (cl_Never:Cls K A.cNever)
  (cl_Paper:Cls K A.cPaper)
  (cl_Person:Cls K A.cPerson)
  (cl_Without:Cls K A.cWithout)
  (g_all:NoG K "all")
  (g_enumerate:NoG K "enumerate")
  (g_int:NoG K "int")
  (g_isinstance:NoG K "isinstance")
  (g_len:NoG K "len")
  (g_list:NoG K "list")
  (g_max:NoG K "max")
  (g_min:NoG K "min")
  (g_range:NoG K "range")
  (g_reversed:NoG K "reversed")
  (g_sorted:NoG K "sorted")
  (g_tuple:NoG K "tuple")
  (g_zip:NoG K "zip")
  (n_Hand_begin:NoAttr K A.cHand "begin")
  (n_EvenCosts_carried:NoAttr K A.cEvenCosts "carried")
  (n_LevelCosts_carried:NoAttr K A.cLevelCosts "carried")
  (n_Person_carried:NoAttr K A.cPerson "carried")
  (n_House_days:NoAttr K A.cHouse "days")
  (n_Hand_kept:NoAttr K A.cHand "kept")
  (n_House_kinds:NoAttr K A.cHouse "kinds")
  (n_House_leave:NoAttr K A.cHouse "leave")
  (n_LevelCosts_level:NoAttr K A.cLevelCosts "level")
  (n_Hand_most:NoAttr K A.cHand "most")
  (n_Person_most:NoAttr K A.cPerson "most")
  (n_Person_name:NoAttr K A.cPerson "name")
  (n_House_needs:NoAttr K A.cHouse "needs")
  (n_Book_pages:NoAttr K A.cBook "pages")
  (n_House_pairs:NoAttr K A.cHouse "pairs")
  (n_Found_paper:NoAttr K A.cFound "paper")
  (n_Without_paper:NoAttr K A.cWithout "paper")
  (n_Person_past:NoAttr K A.cPerson "past")
  (n_House_persons:NoAttr K A.cHouse "persons")
  (n_ChangeCosts_rota:NoAttr K A.cChangeCosts "rota")
  (n_Found_rota:NoAttr K A.cFound "rota")
  (n_Hand_rules:NoAttr K A.cHand "rules")
  (n_House_rules:NoAttr K A.cHouse "rules")
  (n_Person_skills:NoAttr K A.cPerson "skills")
  (n_Found_total:NoAttr K A.cFound "total")
  (n_EvenCosts_weight:NoAttr K A.cEvenCosts "weight")
  (n_EvenCosts_wishes:NoAttr K A.cEvenCosts "wishes")
  (n_House_wishes:NoAttr K A.cHouse "wishes")
  (n_Never_word:NoAttr K A.cNever "word")
  {t_MOST_ENTRIES:PySem.Tok}
  (k_MOST_ENTRIES:PySem.W.nsIn K mainGlobals "MOST_ENTRIES"=some (some (.int 300 t_MOST_ENTRIES)))
  {t_MOST_WAYS:PySem.Tok}
  (k_MOST_WAYS:PySem.W.nsIn K mainGlobals "MOST_WAYS"=some (some (.int 256 t_MOST_WAYS)))
  (kn:PySem.W.specialIn K (.builtin "object.__class__") "__get__"=some (some (.builtin "getset_descriptor.__get__")))
  (kt:PySem.W.takesIn K (.builtin "object.__class__")=some true)
  (ka_Book:PySem.W.findIn K (.ref A.cBook) "__class__"=some (some (.builtin "object.__class__")))
  (km_Book:PySem.W.mroIn K A.cBook (.type "object")=some true)
  (ka_Found:PySem.W.findIn K (.ref A.cFound) "__class__"=some (some (.builtin "object.__class__")))
  (km_Found:PySem.W.mroIn K A.cFound (.type "object")=some true)
  (ka_Without:PySem.W.findIn K (.ref A.cWithout) "__class__"=some (some (.builtin "object.__class__")))
  (km_Without:PySem.W.mroIn K A.cWithout (.type "object")=some true)
  (ks_Found:PySem.W.subIn K (.ref A.cFound) (.ref A.cFound)=some true)
  (ky_Found:PySem.W.typeIn K (.ref A.cFound)=some (.type "type"))
  (kq_Found:PySem.W.isClsIn K A.cFound=true)
  (ks_Without:PySem.W.subIn K (.ref A.cWithout) (.ref A.cWithout)=some true)
  (ky_Without:PySem.W.typeIn K (.ref A.cWithout)=some (.type "type"))
  (kq_Without:PySem.W.isClsIn K A.cWithout=true)
  (kk_0:PySem.W.subIn K (.ref A.cFound) (.ref A.cFound)=some true)
  (kk_1:PySem.W.subIn K (.ref A.cFound) (.ref A.cWithout)=some false)
  (kk_2:PySem.W.subIn K (.ref A.cWithout) (.ref A.cFound)=some false)
  (kk_3:PySem.W.subIn K (.ref A.cWithout) (.ref A.cWithout)=some true)
  (kk_4:PySem.W.subIn K (.ref A.cBook) (.ref A.cFound)=some false)
  (kk_5:PySem.W.subIn K (.ref A.cBook) (.ref A.cWithout)=some false)
  (xs_TooWide:PySem.W.subIn K (.ref A.cTooWide) (.type "BaseException")=some true)
  (xe_TooWide:PySem.W.excIn K A.cTooWide [.type "ValueError", .type "Exception", .type "BaseException", .type "object"] "ValueError.__new__"=true)
  (kc_TooWide:PySem.W.keepIn K (.ref A.cTooWide)=true)
  (ky_TooWide:PySem.W.typeIn K (.ref A.cTooWide)=some (.type "type"))
  (xg_TooWide:PySem.W.findIn K (.ref A.cTooWide) "__getattribute__"=some (some (.builtin "BaseException.__getattribute__")))
  (xk_TooWide:PySem.W.findIn K (.ref A.cTooWide) "__getattr__"=some none)
  (hd_TooWide:PySem.W.hasDictIn K A.cTooWide=true)
  (ka_TooWide:PySem.W.findIn K (.ref A.cTooWide) "__class__"=some (some (.builtin "object.__class__")))
  (km_TooWide:PySem.W.mroIn K A.cTooWide (.type "object")=some true)
  (xv_TooWide:PySem.W.subIn K (.ref A.cTooWide) (.type "ValueError")=some true)
  (ks_Faulty:PySem.W.subIn K (.ref A.cFaulty) (.ref A.cFaulty)=some true)
  (ky_Faulty:PySem.W.typeIn K (.ref A.cFaulty)=some (.type "type"))
  (kq_Faulty:PySem.W.isClsIn K A.cFaulty=true)
  (ks_TooWide:PySem.W.subIn K (.ref A.cTooWide) (.ref A.cTooWide)=some true)
  (kq_TooWide:PySem.W.isClsIn K A.cTooWide=true)
  (kxx_0:PySem.W.subIn K (.ref A.cTooWide) (.ref A.cFaulty)=some false)
  (kxx_1:PySem.W.subIn K (.ref A.cTooWide) (.ref A.cTooWide)=some true)
  (xs_RotaError:PySem.W.subIn K (.ref A.cRotaError) (.type "BaseException")=some true)
  (hd_RotaError:PySem.W.hasDictIn K A.cRotaError=true)
  (ky_RotaError:PySem.W.typeIn K (.ref A.cRotaError)=some (.type "type"))
  (xr_TooWide_RotaError:PySem.W.subIn K (.ref A.cTooWide) (.ref A.cRotaError)=some true)
  (xr_TooWide_TooWide:PySem.W.subIn K (.ref A.cTooWide) (.ref A.cTooWide)=some true):
  ∃ts:List (Addr×Addr×Str),(∀t∈ts,h.get? t.2.1=some { cls:= .none,data:= .fields #[] })∧(∀t∈ts,K.lookup t.2.1=none)∧(∀t∈ts,PySem.W.CodeHd h t.1 t.2.1)∧ ∃fd:FuncData,(∀(s:Shared) (v:Value),BindsTo s fd ⟨[v],[]⟩ [("_law_script",v)])∧ ∀base:Heap,K.In base→base.Ns mainGlobals mg→(∀t∈ts,LamX.TabB base mg t.1 t.2.1)→FnOk l.prog w K mg base CX0 10 fa fd ["_law_script"] (@bZ ⟨ts.map (·.2),some w⟩ K pN):=by
 refine ⟨([(cc59,PP59,(("least_by_book":Str)++".<locals>."++"<lambda>"))]:List (Addr×Addr×Str)), ?_, ?_, ?_, ?_⟩
 ·intro t ht
  simp only [List.mem_cons,List.not_mem_nil,or_false] at ht
  rcases ht with rfl
  ·exact ht59
 ·intro t ht
  simp only [List.mem_cons,List.not_mem_nil,or_false] at ht
  rcases ht with rfl
  ·exact hn59
 ·intro t ht
  simp only [List.mem_cons,List.not_mem_nil,or_false] at ht
  rcases ht with rfl
  ·exact PySem.W.codeHd_of_K X hc59
 suffices hsuf: ∃fd:FuncData,(∀(s:Shared) (v:Value),BindsTo s fd ⟨[v],[]⟩ [("_law_script",v)])∧ ∀base:Heap,K.In base→base.Ns mainGlobals mg→(∀t∈([(cc59,PP59,(("least_by_book":Str)++".<locals>."++"<lambda>"))]:List (Addr×Addr×Str)),LamX.TabB base mg t.1 t.2.1)→FnOk l.prog w K mg base CX0 10 fa fd ["_law_script"] (@bZ ⟨[(PP59,(("least_by_book":Str)++".<locals>."++"<lambda>"))],some w⟩ K (ac1 A)) from hsuf
 have e:=hfa.symm.trans (PySem.W.mg_of X G a64)
 cases e
 have ki_Book:akP K A.cBook:=⟨cl_Book,ka_Book,kn,kt,km_Book⟩
 have ki_Found:akP K A.cFound:=⟨cl_Found,ka_Found,kn,kt,km_Found⟩
 have ki_Without:akP K A.cWithout:=⟨cl_Without,ka_Without,kn,kt,km_Without⟩
 have kinok:akQ K (aaL A):=by
  intro p hp
  simp only [aaL,List.mem_cons,List.not_mem_nil,or_false] at hp
  rcases hp with rfl|rfl|rfl|rfl|rfl|rfl
  ·exact ⟨ki_Found,kE kk_0 ks_Found ky_Found kq_Found⟩
  ·exact ⟨ki_Found,kE kk_1 ks_Without ky_Without kq_Without⟩
  ·exact ⟨ki_Without,kE kk_2 ks_Found ky_Found kq_Found⟩
  ·exact ⟨ki_Without,kE kk_3 ks_Without ky_Without kq_Without⟩
  ·exact ⟨ki_Book,kE kk_4 ks_Found ky_Found kq_Found⟩
  ·exact ⟨ki_Book,kE kk_5 ks_Without ky_Without kq_Without⟩
 have ec_TooWide:ExcC K A.cTooWide:=⟨xg_TooWide,xk_TooWide,xs_TooWide,hd_TooWide,ka_TooWide,kn,kt,km_TooWide⟩
 have cau_RotaError:JN K (.ref A.cRotaError) (d_ A):=by
  intro p hp
  simp only [d_,List.mem_cons,List.not_mem_nil,or_false] at hp
  rcases hp with rfl
  ·exact PySem.W.exm_ref xs_RotaError hd_RotaError ky_RotaError xr_TooWide_RotaError
 have cau_TooWide:JN K (.ref A.cTooWide) (kW A):=by
  intro p hp
  simp only [kW,List.mem_cons,List.not_mem_nil,or_false] at hp
  rcases hp with rfl
  ·exact PySem.W.exm_ref xs_TooWide hd_TooWide ky_TooWide xr_TooWide_TooWide
 have kinxok:ap7 K (aeM A):=by
  intro p hp
  simp only [aeM,List.mem_cons,List.not_mem_nil,or_false] at hp
  rcases hp with rfl|rfl
  ·exact ⟨ec_TooWide,kE kxx_0 ks_Faulty ky_Faulty kq_Faulty⟩
  ·exact ⟨ec_TooWide,kE kxx_1 ks_TooWide ky_TooWide kq_TooWide⟩
 have kinbok:ap8 K (anQ A):=by
  intro p hp
  simp only [anQ,List.mem_cons,List.not_mem_nil,or_false] at hp
  rcases hp with rfl
  ·exact ⟨ec_TooWide,awD xv_TooWide⟩
 have ecok: ∀C,C∈d_ A→ExcC K C:=by
  intro p hp
  simp only [d_,List.mem_cons,List.not_mem_nil,or_false] at hp
  rcases hp with rfl
  ·exact ec_TooWide
 have T:Txt K mg A:=⟨PySem.W.mg_none_of X G g_all,PySem.W.mg_none_of X G g_enumerate,PySem.W.mg_none_of X G g_int,PySem.W.mg_none_of X G g_isinstance,PySem.W.mg_none_of X G g_len,PySem.W.mg_none_of X G g_list,PySem.W.mg_none_of X G g_max,PySem.W.mg_none_of X G g_min,PySem.W.mg_none_of X G g_range,PySem.W.mg_none_of X G g_reversed,PySem.W.mg_none_of X G g_sorted,PySem.W.mg_none_of X G g_tuple,PySem.W.mg_none_of X G g_zip,PySem.W.mg_of X G aC_RotaError,PySem.W.mg_of X G aC_NoName,PySem.W.mg_of X G aC_TooWide,PySem.W.mg_of X G aC_Faulty,PySem.W.mg_of X G aC_Costs,PySem.W.mg_of X G aC_EvenCosts,PySem.W.mg_of X G aC_ChangeCosts,PySem.W.mg_of X G aC_LevelCosts,PySem.W.mg_of X G aC_Paper,PySem.W.mg_of X G aC_Answer,PySem.W.mg_of X G aC_Found,PySem.W.mg_of X G aC_Without,PySem.W.mg_of X G aC_Rule,PySem.W.mg_of X G aC_Never,PySem.W.mg_of X G aC_Hand,PySem.W.mg_of X G aC_Book,PySem.W.mg_of X G aC_Person,PySem.W.mg_of X G aC_House,cl_Book,cl_ChangeCosts,cl_Costs,cl_EvenCosts,cl_Found,cl_Hand,cl_House,cl_LevelCosts,cl_Never,cl_Paper,cl_Person,cl_Without,n_Hand_begin,n_EvenCosts_carried,n_LevelCosts_carried,n_Person_carried,n_House_days,n_Hand_kept,n_House_kinds,n_House_leave,n_LevelCosts_level,n_Hand_most,n_Person_most,n_Person_name,n_House_needs,n_Book_pages,n_House_pairs,n_Found_paper,n_Without_paper,n_Person_past,n_House_persons,n_ChangeCosts_rota,n_Found_rota,n_Hand_rules,n_House_rules,n_Person_skills,n_Found_total,n_EvenCosts_weight,n_EvenCosts_wishes,n_House_wishes,n_Never_word,⟨_,PySem.W.mg_of X G k_MOST_ENTRIES⟩,⟨_,PySem.W.mg_of X G k_MOST_WAYS⟩,kinok,⟨PySem.W.mg_of X G aC_TooWide,xe_TooWide,kc_TooWide,xs_TooWide,ky_TooWide⟩,cau_RotaError,cau_TooWide,kinxok,kinbok,ecok⟩
 have FF59:=arS (st:=cA) l59 c59 k59
 have b59:=FF59.binds (ps:=["house","costs"]) (by walk_at "b2")
 have FF64:=fun_mk (st:=yc) l64 c64 k64
 have b64:=FF64.binds (ps:=["_law_script"]) (by walk_at "b1")
 refine ⟨PySem.W.fnOf "law" "law" (defArgs yc) (defBody yc) (defScope yc) .none kV64 dc64 pm64 an64 cd64 ct64, ?_,fun base _ _ TBs=> ?_⟩
 rotate_left
 letI LT0:bG:=⟨[(PP59,(("least_by_book":Str)++".<locals>."++"<lambda>"))],some w⟩
 have hW:bG.w=some w:=rfl
 have LO59:agV base mg cd59 (("least_by_book":Str)++".<locals>."++"<lambda>"):=⟨cc59,PP59,TBs (cc59,PP59,(("least_by_book":Str)++".<locals>."++"<lambda>")) (by simp),hq59,(show (PP59,(("least_by_book":Str)++".<locals>."++"<lambda>"))∈([(PP59,(("least_by_book":Str)++".<locals>."++"<lambda>"))]:List (Addr×Str)) by simp),(by
  intro p hp e
  have hp:p∈([(PP59,(("least_by_book":Str)++".<locals>."++"<lambda>"))]:List (Addr×Str)):=hp
  simp only [List.mem_cons,List.not_mem_nil,or_false] at hp
  rcases hp with rfl
  all_goals first|rfl)⟩
 have M_ChangeCosts:MkG l.prog w K mg base "ChangeCosts" A.cChangeCosts 1 (g_ A):=mkg mq_ChangeCosts e4.1 e4.2 (vI T) T.m_ChangeCosts (by walk_at "b3")
 have M_LevelCosts:MkG l.prog w K mg base "LevelCosts" A.cLevelCosts 1 (jc A):=mkg mq_LevelCosts e6.1 e6.2 (wA T) T.m_LevelCosts (by walk_at "b3")
 have F_skill_faults:FnG l.prog w K mg base "skill_faults" 1 (fY A):=fng X G e8 (Pq T) (by walk_at "b3")
 have F_leave_faults:FnG l.prog w K mg base "leave_faults" 1 (fZ A):=fng X G e9 (Pu T) (by walk_at "b3")
 have F_most_faults:FnG l.prog w K mg base "most_faults" 1 (h_ A):=fng X G e10 (VL T) (by walk_at "b3")
 have M_Found:MkG l.prog w K mg base "Found" A.cFound 1 (qW A):=mkg mq_Found e12.1 e12.2 (Hh T) T.m_Found (by walk_at "b4")
 have M_Without:MkG l.prog w K mg base "Without" A.cWithout 1 (lw A):=mkg mq_Without e13.1 e13.2 (zN T) T.m_Without (by walk_at "b2")
 have F_fits:FnG l.prog w K mg base "fits" 1 (yf A):=fng X G e14 (atu T) (by walk_at "b2")
 have F_last_of:FnG l.prog w K mg base "last_of" 1 (iU A):=fng X G e15 (afb T) (by walk_at "b2")
 have M_Never:MkG l.prog w K mg base "Never" A.cNever 1 (tM A):=mkg mq_Never e16.1 e16.2 (Hi T) T.m_Never (by walk_at "b2")
 have F_first_entry:FnG l.prog w K mg base "first_entry" 1 (dY A):=fng X G e18 (VN T) (by walk_at "b1")
 have F_least_costs:FnG l.prog w K mg base "least_costs" 1 (eX A):=fng X G e19 (VP T hW) (by walk_at "b1")
 have F_lands:FnG l.prog w K mg base "lands" 1 (pJ A):=fng X G e20 (aoJ T hW) (by walk_at "b2")
 have M_Book:MkG l.prog w K mg base "Book" A.cBook 1 (qF A):=mkg mq_Book e21.1 e21.2 (KH T) T.m_Book (by walk_at "b2")
 have F_rota_back:FnG l.prog w K mg base "rota_back" 1 (jg A):=fng X G e22 (aa8 T hW) (by walk_at "b3")
 have M_Person:MkG l.prog w K mg base "Person" A.cPerson 1 (pW A):=mkg mq_Person e23.1 e23.2 (Cu T) T.m_Person (by walk_at "b6")
 have M_House:MkG l.prog w K mg base "House" A.cHouse 1 (pF A):=mkg mq_House e24.1 e24.2 (Hj T) T.m_House (by walk_at "b9")
 have F_l_cell_at:FnG l.prog w K mg base "_law_cell_at" 1 (cI A):=fng X G e28 (aa9 T) (by walk_at "b2")
 have F_l_names:FnG l.prog w K mg base "_law_names" 1 (mO A):=fng X G e29 (afc T) (by walk_at "b2")
 have F_l_kinds:FnG l.prog w K mg base "_law_kinds" 1 (mQ A):=fng X G e30 (afd T) (by walk_at "b2")
 have F_l_day:FnG l.prog w K mg base "_law_day" 1 (tO A):=fng X G e31 (aoK T) (by walk_at "b3")
 have F_l_product:FnG l.prog w K mg base "_law_product" 1 (jh A):=fng X G e32 (aa_ T) (by walk_at "b4")
 have N_need: ∀C S,ye A C S→cM l.prog w K mg base CX0 1 "need" C S:=by
  intro C S h
  unfold ye at h
  rcases h with ⟨rfl,rfl⟩
  ·exact mth T.cl_House e25.1 e25.2 (Yg T) (by decide) (by walk_at "b3")
 have F_needs_hold:FnG l.prog w K mg base "needs_hold" 2 (je A):=fng X G e33 (Yh T N_need) (by walk_at "b3")
 have N_place_of: ∀C S,jj A C S→cM l.prog w K mg base CX0 1 "place_of" C S:=by
  intro C S h
  unfold jj at h
  rcases h with ⟨rfl,rfl⟩
  ·exact mth T.cl_House e26.1 e26.2 (Hk T) (by decide) (by walk_at "b2")
 have F_pairs_hold:FnG l.prog w K mg base "pairs_hold" 2 (jf A):=fng X G e34 (Yi T N_place_of) (by walk_at "b2")
 have M_EvenCosts:MkG l.prog w K mg base "EvenCosts" A.cEvenCosts 2 (jK A):=mkg mq_EvenCosts e35.1 e35.2 (xg T N_place_of) T.m_EvenCosts (by walk_at "b2")
 have N_of_count: ∀C S,mF A C S→cM l.prog w K mg base CX0 1 "of_count" C S:=by
  intro C S h
  unfold mF at h
  rcases h with ⟨rfl,rfl⟩|⟨rfl,rfl⟩|⟨rfl,rfl⟩|⟨rfl,rfl⟩
  ·exact mth T.cl_Costs e0.1 e0.2 (t8 T) (by decide) (by walk_at "b3")
  ·exact mth T.cl_EvenCosts e2.1 e2.2 (xf T) (by decide) (by walk_at "b3")
  ·exact mth T.cl_ChangeCosts h_ChangeCosts_of_count e0.2 (t8 T) (by decide) (by walk_at "b3")
  ·exact mth T.cl_LevelCosts e7.1 e7.2 (wB T) (by decide) (by walk_at "b3")
 have N_of_mark: ∀C S,o_ A C S→cM l.prog w K mg base CX0 1 "of_mark" C S:=by
  intro C S h
  unfold o_ at h
  rcases h with ⟨rfl,rfl⟩|⟨rfl,rfl⟩|⟨rfl,rfl⟩|⟨rfl,rfl⟩
  ·exact mth T.cl_Costs e1.1 e1.2 (vH T) (by decide) (by walk_at "b4")
  ·exact mth T.cl_EvenCosts e3.1 e3.2 (yO T) (by decide) (by walk_at "b4")
  ·exact mth T.cl_ChangeCosts e5.1 e5.2 (wz T) (by decide) (by walk_at "b4")
  ·exact mth T.cl_LevelCosts h_LevelCosts_of_mark e1.2 (vH T) (by decide) (by walk_at "b4")
 have F_total_of:FnG l.prog w K mg base "total_of" 2 (jk A):=fng X G e36 (adJ T N_of_count N_of_mark) (by walk_at "b3")
 have F_need_faults:FnG l.prog w K mg base "need_faults" 2 (ie A):=fng X G e37 (VR T N_need) (by walk_at "b3")
 have F_pair_faults:FnG l.prog w K mg base "pair_faults" 2 (ir A):=fng X G e38 (V1 T N_place_of) (by walk_at "b3")
 have F_step:FnG l.prog w K mg base "step" 2 (ym A):=fng X G e41 (atv T N_of_mark) (by walk_at "b5")
 have F_ended:FnG l.prog w K mg base "ended" 2 (lX A):=fng X G e42 (aoL T N_of_count) (by walk_at "b2")
 have N_reach: ∀C S,FT A C S→cM l.prog w K mg base CX0 1 "reach" C S:=by
  intro C S h
  unfold FT at h
  rcases h with ⟨rfl,rfl⟩
  ·exact mth T.cl_Never e17.1 e17.2 (VM T) (by decide) (by walk_at "b1")
 have N_rules_for: ∀C S,jL A C S→cM l.prog w K mg base CX0 1 "rules_for" C S:=by
  intro C S h
  unfold jL at h
  rcases h with ⟨rfl,rfl⟩
  ·exact mth T.cl_House e27.1 e27.2 (Cv T) (by decide) (by walk_at "b2")
 have H_Hand_cutB:agP l.prog w K mg base "cut" 2 A.cHand (jM A):=aEX T.cl_Hand e45.1 e45.2 (abd T F_last_of) (by walk_at "b2")
 have N_may: ∀C S,YJ A C S→cM l.prog w K mg base CX0 2 "may" C S:=by
  intro C S h
  unfold YJ at h
  rcases h with ⟨rfl,rfl⟩
  ·exact mth T.cl_House e43.1 e43.2 (abb T N_need) (by decide) (by walk_at "b3")
 have X_columns:FnX l.prog w K mg base "columns" 3 [false,false] (jD A):=fnx X G e46 (afe T F_needs_hold F_pairs_hold N_may) (by walk_at "b2")
 have N_bad: ∀C S,U7 A C S→cM l.prog w K mg base CX0 2 "bad" C S:=by
  intro C S h
  unfold U7 at h
  rcases h with ⟨rfl,rfl⟩
  ·exact mth T.cl_Never e39.1 e39.2 (aba T F_fits F_last_of) (by decide) (by walk_at "b2")
 have F_rule_faults:FnG l.prog w K mg base "rule_faults" 3 (ig A):=fng X G e47 (V2 T N_bad N_rules_for) (by walk_at "b3")
 have N_reach_of: ∀C S,ph A C S→cM l.prog w K mg base CX0 2 "reach_of" C S:=by
  intro C S h
  unfold ph at h
  rcases h with ⟨rfl,rfl⟩
  ·exact mth T.cl_House e44.1 e44.2 (Hm T N_reach N_rules_for) (by decide) (by walk_at "b2")
 have MT_Hand:MkT l.prog w K mg base "Hand" A.cHand 3 (fG A):=mkt mq_Hand e48.1 e48.2 (KJ T H_Hand_cutB N_reach_of N_rules_for) T.m_Hand (by walk_at "b3")
 have F_l_house:FnG l.prog w K mg base "_law_house" 3 (lB A):=fng X G e50 (afg T F_l_cell_at F_l_day M_House M_Never M_Person) (by walk_at "b4")
 have F_faults:FnG l.prog w K mg base "faults" 4 (rY A):=fng X G e51 (aiJ T F_leave_faults F_most_faults F_need_faults F_pair_faults F_rule_faults F_skill_faults) (by walk_at "b2")
 have N_cut: ∀C S,ag6 A C S→cM l.prog w K mg base CX0 2 "cut" C S:=by
  intro C S h
  unfold ag6 at h
  rcases h with ⟨rfl,rfl⟩
  ·exact mth T.cl_Hand e40.1 e40.2 (adK T F_last_of) (by decide) (by walk_at "b2")
 have N_lets: ∀C S,aaT A C S→cM l.prog w K mg base CX0 3 "lets" C S:=by
  intro C S h
  unfold aaT at h
  rcases h with ⟨rfl,rfl⟩
  ·exact mth T.cl_Hand e49.1 e49.2 (abe T N_bad) (by decide) (by walk_at "b3")
 have F_l_costs:FnG l.prog w K mg base "_law_costs" 4 (lC A):=fng X G e53 (afh T F_l_cell_at M_ChangeCosts M_EvenCosts M_LevelCosts) (by walk_at "b2")
 have F_hands_of:FnG l.prog w K mg base "hands_of" 5 (fU A):=fng X G e54 (adL T MT_Hand) (by walk_at "b1")
 have N_looked: ∀C S,Ge A C S→cM l.prog w K mg base CX0 4 "looked" C S:=by
  intro C S h
  unfold Ge at h
  rcases h with ⟨rfl,rfl⟩
  ·exact mth T.cl_Hand e52.1 e52.2 (V3 T N_cut N_lets) (by decide) (by walk_at "b4")
 have X_steps:FnX l.prog w K mg base "steps" 6 [false,false,false,false] (pH A):=fnx X G e55 (aoM T F_hands_of F_step N_looked N_may X_columns) (by walk_at "b4")
 have X_page_behind:FnX l.prog w K mg base "page_behind" 7 [false,false,false,false] (fW A):=fnx X G e57 (V4 T hW X_steps) (by walk_at "b4")
 have N_carried_on: ∀C S,qX A C S→cM l.prog w K mg base CX0 7 "carried_on" C S:=by
  intro C S h
  unfold qX at h
  rcases h with ⟨rfl,rfl⟩
  ·exact mth T.cl_Book e56.1 e56.2 (Cy T F_lands F_least_costs X_steps) (by decide) (by walk_at "b4")
 have ok59:=KQ (P:=l.prog) (w:=w) (base:=base) T F_ended F_first_entry F_hands_of F_rota_back M_Book M_Found M_Without X_page_behind FF59 LO59
 have X_least_by_book:FnX l.prog w K mg base "least_by_book" 8 [false,false] (cC A):=⟨_,_,_,ok59,PySem.W.mg_of X G a59,k59,b59⟩
 have N_floor: ∀C S,qY A C S→cM l.prog w K mg base CX0 8 "floor" C S:=by
  intro C S h
  unfold qY at h
  rcases h with ⟨rfl,rfl⟩
  ·exact mth T.cl_Book e58.1 e58.2 (Yj T F_ended F_first_entry F_hands_of F_lands F_least_costs N_carried_on) (by decide) (by walk_at "b3")
 have F_l_refused:FnG l.prog w K mg base "_law_refused" 9 (ji A):=fng X G e62 (abf T X_least_by_book) (by walk_at "b2")
 have F_l_quiet_floor:FnG l.prog w K mg base "_law_quiet_floor" 9 (dB A):=fng X G e63 (KR T M_Book N_floor N_reach_of) (by walk_at "b2")
 exact aAb T F_l_cell_at F_l_costs F_l_house F_l_kinds F_l_names F_l_product F_l_quiet_floor F_l_refused F_total_of N_floor X_columns X_least_by_book FF64
 exact fun s v=> .of_eq rfl
def atw{zRotaError zNoName zTooWide zFaulty zCosts zEvenCosts zChangeCosts zLevelCosts zPaper zAnswer zFound zWithout zRule zNever zHand zBook zPerson zHouse:Addr}{l:PySem.W.OpenLaw}{w:World}{K:PySem.W.Frag}{h:Heap}{mg:Str→Option Value}{fa f0 f1 f2 f3 f4 f5 f6 f7 f8 f9 f10 f11 f12 f13 f14 f15 f16 f17 f18 f19 f20 f21 f22 f23 f24 f25 f26 f27 f28 f29 f30 f31 f32 f33 f34 f35 f36 f37 f38 f39 f40 f41 f42 f43 f44 f45 f46 f47 f48 f49 f50 f51 f52 f53 f54 f55 f56 f57 f58 f59 f60 f61 f62 f63 f64 cc59 PP59:Addr}:= @aAc l w K h mg fa f0 f1 f2 f3 f4 f5 f6 f7 f8 f9 f10 f11 f12 f13 f14 f15 f16 f17 f18 f19 f20 f21 f22 f23 f24 f25 f26 f27 f28 f29 f30 f31 f32 f33 f34 f35 f36 f37 f38 f39 f40 f41 f42 f43 f44 f45 f46 f47 f48 f49 f50 f51 f52 f53 f54 f55 f56 f57 f58 f59 f60 f61 f62 f63 f64 cc59 PP59 (⟨zRotaError,zNoName,zTooWide,zFaulty,zCosts,zEvenCosts,zChangeCosts,zLevelCosts,zPaper,zAnswer,zFound,zWithout,zRule,zNever,zHand,zBook,zPerson,zHouse⟩:Ad)
end K67
end
section
open PySem PySem.W PyProof.Rows
local macro_rules| `(tactic|walk_at "kx")=> `(tactic|((try dsimp only [DL.NsA,DL.FdA,DL.NoG,L2.NoAttr]);k_is))
local macro_rules| `(tactic|walk_at "k2")=> `(tactic|exact ⟨by walk_at "kx",by walk_at "kx"⟩)
local macro_rules| `(tactic|walk_at "kc")=> `(tactic|exact ⟨by walk_at "kx",by walk_at "kx",by walk_at "kx",by walk_at "kx"⟩)
local macro_rules| `(tactic|walk_at "kf")=> `(tactic|exact ⟨by walk_at "kx",⟨_,⟨⟨_,_,_,_,_,_,_,_,_,rfl,by walk_at "kx",by walk_at "kx"⟩,by walk_at "kx"⟩⟩⟩)
local macro_rules| `(tactic|walk_at "km")=> `(tactic|exact ⟨by walk_at "kx",by walk_at "kx",⟨_,⟨⟨_,_,_,_,_,_,_,_,_,rfl,by walk_at "kx",by walk_at "kx"⟩,by walk_at "kx"⟩⟩⟩)
set_option maxRecDepth 100000 in
set_option maxHeartbeats 0 in
theorem PySem.Challenge.cw_rotafair_k67_columns_too_wide_holds : PySem.Challenge.rw_rotafair_k67_columns_too_wide.Holds := by
 w_on;o_law;refine K67.aAh ?hw ?hc;(case hw=>w_witness2)
 k_fill
 refine DL.ana (k:=10) (x:="_law_script") (l:=PySem.Challenge.rw_rotafair_k67_columns_too_wide) ⟨rfl,by decide,by decide⟩ rfl rfl (fun w h Y=>PySem.W.km_in_of Y) ?F
 case F=>
  intro w mg fa h Y KX G hmg
  refine' K67.atw KX G hmg ?aC_RotaError ?aC_NoName ?aC_TooWide ?aC_Faulty ?aC_Costs ?aC_EvenCosts ?aC_ChangeCosts ?aC_LevelCosts ?aC_Paper ?aC_Answer ?aC_Found ?aC_Without ?aC_Rule ?aC_Never ?aC_Hand ?aC_Book ?aC_Person ?aC_House ?e0 ?e1 ?e2 ?e3 ?e4 ?e5 ?e6 ?e7 ?e8 ?e9 ?e10 ?e11 ?e12 ?e13 ?e14 ?e15 ?e16 ?e17 ?e18 ?e19 ?e20 ?e21 ?e22 ?e23 ?e24 ?e25 ?e26 ?e27 ?e28 ?e29 ?e30 ?e31 ?e32 ?e33 ?e34 ?e35 ?e36 ?e37 ?e38 ?e39 ?e40 ?e41 ?e42 ?e43 ?e44 ?e45 ?e46 ?e47 ?e48 ?e49 ?e50 ?e51 ?e52 ?e53 ?e54 ?e55 ?e56 ?e57 ?e58 ?a59 ?l59 ?c59 ?k59 ?e60 ?e61 ?e62 ?e63 ?a64 ?l64 ?c64 ?k64 ?ht59 ?hn59 ?hq59 ?hc59 ?h_ChangeCosts_of_count ?h_LevelCosts_of_mark ?mq_Book ?mq_ChangeCosts ?mq_EvenCosts ?mq_Found ?mq_Hand ?mq_House ?mq_LevelCosts ?mq_Never ?mq_Person ?mq_Without ?cl_Book ?cl_ChangeCosts ?cl_Costs ?cl_EvenCosts ?cl_Found ?cl_Hand ?cl_House ?cl_LevelCosts ?cl_Never ?cl_Paper ?cl_Person ?cl_Without ?g_all ?g_enumerate ?g_int ?g_isinstance ?g_len ?g_list ?g_max ?g_min ?g_range ?g_reversed ?g_sorted ?g_tuple ?g_zip ?n_Hand_begin ?n_EvenCosts_carried ?n_LevelCosts_carried ?n_Person_carried ?n_House_days ?n_Hand_kept ?n_House_kinds ?n_House_leave ?n_LevelCosts_level ?n_Hand_most ?n_Person_most ?n_Person_name ?n_House_needs ?n_Book_pages ?n_House_pairs ?n_Found_paper ?n_Without_paper ?n_Person_past ?n_House_persons ?n_ChangeCosts_rota ?n_Found_rota ?n_Hand_rules ?n_House_rules ?n_Person_skills ?n_Found_total ?n_EvenCosts_weight ?n_EvenCosts_wishes ?n_House_wishes ?n_Never_word ?k_MOST_ENTRIES ?k_MOST_WAYS ?kn ?kt ?ka_Book ?km_Book ?ka_Found ?km_Found ?ka_Without ?km_Without ?ks_Found ?ky_Found ?kq_Found ?ks_Without ?ky_Without ?kq_Without ?kk_0 ?kk_1 ?kk_2 ?kk_3 ?kk_4 ?kk_5 ?xs_TooWide ?xe_TooWide ?kc_TooWide ?ky_TooWide ?xg_TooWide ?xk_TooWide ?hd_TooWide ?ka_TooWide ?km_TooWide ?xv_TooWide ?ks_Faulty ?ky_Faulty ?kq_Faulty ?ks_TooWide ?kq_TooWide ?kxx_0 ?kxx_1 ?xs_RotaError ?hd_RotaError ?ky_RotaError ?xr_TooWide_RotaError ?xr_TooWide_TooWide
  (case aC_RotaError=>walk_at "kx")
  (case aC_NoName=>walk_at "kx")
  (case aC_TooWide=>walk_at "kx")
  (case aC_Faulty=>walk_at "kx")
  (case aC_Costs=>walk_at "kx")
  (case aC_EvenCosts=>walk_at "kx")
  (case aC_ChangeCosts=>walk_at "kx")
  (case aC_LevelCosts=>walk_at "kx")
  (case aC_Paper=>walk_at "kx")
  (case aC_Answer=>walk_at "kx")
  (case aC_Found=>walk_at "kx")
  (case aC_Without=>walk_at "kx")
  (case aC_Rule=>walk_at "kx")
  (case aC_Never=>walk_at "kx")
  (case aC_Hand=>walk_at "kx")
  (case aC_Book=>walk_at "kx")
  (case aC_Person=>walk_at "kx")
  (case aC_House=>walk_at "kx")
  (case e0=>walk_at "km")
  (case e1=>walk_at "km")
  (case e2=>walk_at "km")
  (case e3=>walk_at "km")
  (case e4=>walk_at "km")
  (case e5=>walk_at "km")
  (case e6=>walk_at "km")
  (case e7=>walk_at "km")
  (case e8=>walk_at "kf")
  (case e9=>walk_at "kf")
  (case e10=>walk_at "kf")
  (case e11=>walk_at "km")
  (case e12=>walk_at "km")
  (case e13=>walk_at "km")
  (case e14=>walk_at "kf")
  (case e15=>walk_at "kf")
  (case e16=>walk_at "km")
  (case e17=>walk_at "km")
  (case e18=>walk_at "kf")
  (case e19=>walk_at "kf")
  (case e20=>walk_at "kf")
  (case e21=>walk_at "km")
  (case e22=>walk_at "kf")
  (case e23=>walk_at "km")
  (case e24=>walk_at "km")
  (case e25=>walk_at "km")
  (case e26=>walk_at "km")
  (case e27=>walk_at "km")
  (case e28=>walk_at "kf")
  (case e29=>walk_at "kf")
  (case e30=>walk_at "kf")
  (case e31=>walk_at "kf")
  (case e32=>walk_at "kf")
  (case e33=>walk_at "kf")
  (case e34=>walk_at "kf")
  (case e35=>walk_at "km")
  (case e36=>walk_at "kf")
  (case e37=>walk_at "kf")
  (case e38=>walk_at "kf")
  (case e39=>walk_at "km")
  (case e40=>walk_at "km")
  (case e41=>walk_at "kf")
  (case e42=>walk_at "kf")
  (case e43=>walk_at "km")
  (case e44=>walk_at "km")
  (case e45=>walk_at "km")
  (case e46=>walk_at "kf")
  (case e47=>walk_at "kf")
  (case e48=>walk_at "km")
  (case e49=>walk_at "km")
  (case e50=>walk_at "kf")
  (case e51=>walk_at "kf")
  (case e52=>walk_at "km")
  (case e53=>walk_at "kf")
  (case e54=>walk_at "kf")
  (case e55=>walk_at "kf")
  (case e56=>walk_at "km")
  (case e57=>walk_at "kf")
  (case e58=>walk_at "km")
  (case a59=>walk_at "kx")
  (case l59=>walk_at "kx")
  (case c59=>walk_at "kx")
  (case k59=>walk_at "kx")
  (case e60=>walk_at "km")
  (case e61=>walk_at "km")
  (case e62=>walk_at "kf")
  (case e63=>walk_at "kf")
  (case a64=>walk_at "kx")
  (case l64=>walk_at "kx")
  (case c64=>walk_at "kx")
  (case k64=>walk_at "kx")
  (case ht59=>exact PySem.W.km_tabs_of Y _ (by first|exact .head _|exact .tail _ (.head _)))
  (case hn59=>first|rfl|kernel_rfl)
  (case hq59=>first|rfl|kernel_rfl)
  (case hc59=>first|rfl|kernel_rfl)
  (case h_ChangeCosts_of_count=>walk_at "kx")
  (case h_LevelCosts_of_mark=>walk_at "kx")
  (case mq_Book=>walk_at "k2")
  (case mq_ChangeCosts=>walk_at "k2")
  (case mq_EvenCosts=>walk_at "k2")
  (case mq_Found=>walk_at "k2")
  (case mq_Hand=>walk_at "k2")
  (case mq_House=>walk_at "k2")
  (case mq_LevelCosts=>walk_at "k2")
  (case mq_Never=>walk_at "k2")
  (case mq_Person=>walk_at "k2")
  (case mq_Without=>walk_at "k2")
  (case cl_Book=>walk_at "kc")
  (case cl_ChangeCosts=>walk_at "kc")
  (case cl_Costs=>walk_at "kc")
  (case cl_EvenCosts=>walk_at "kc")
  (case cl_Found=>walk_at "kc")
  (case cl_Hand=>walk_at "kc")
  (case cl_House=>walk_at "kc")
  (case cl_LevelCosts=>walk_at "kc")
  (case cl_Never=>walk_at "kc")
  (case cl_Paper=>walk_at "kc")
  (case cl_Person=>walk_at "kc")
  (case cl_Without=>walk_at "kc")
  (case g_all=>walk_at "kx")
  (case g_enumerate=>walk_at "kx")
  (case g_int=>walk_at "kx")
  (case g_isinstance=>walk_at "kx")
  (case g_len=>walk_at "kx")
  (case g_list=>walk_at "kx")
  (case g_max=>walk_at "kx")
  (case g_min=>walk_at "kx")
  (case g_range=>walk_at "kx")
  (case g_reversed=>walk_at "kx")
  (case g_sorted=>walk_at "kx")
  (case g_tuple=>walk_at "kx")
  (case g_zip=>walk_at "kx")
  (case n_Hand_begin=>walk_at "kx")
  (case n_EvenCosts_carried=>walk_at "kx")
  (case n_LevelCosts_carried=>walk_at "kx")
  (case n_Person_carried=>walk_at "kx")
  (case n_House_days=>walk_at "kx")
  (case n_Hand_kept=>walk_at "kx")
  (case n_House_kinds=>walk_at "kx")
  (case n_House_leave=>walk_at "kx")
  (case n_LevelCosts_level=>walk_at "kx")
  (case n_Hand_most=>walk_at "kx")
  (case n_Person_most=>walk_at "kx")
  (case n_Person_name=>walk_at "kx")
  (case n_House_needs=>walk_at "kx")
  (case n_Book_pages=>walk_at "kx")
  (case n_House_pairs=>walk_at "kx")
  (case n_Found_paper=>walk_at "kx")
  (case n_Without_paper=>walk_at "kx")
  (case n_Person_past=>walk_at "kx")
  (case n_House_persons=>walk_at "kx")
  (case n_ChangeCosts_rota=>walk_at "kx")
  (case n_Found_rota=>walk_at "kx")
  (case n_Hand_rules=>walk_at "kx")
  (case n_House_rules=>walk_at "kx")
  (case n_Person_skills=>walk_at "kx")
  (case n_Found_total=>walk_at "kx")
  (case n_EvenCosts_weight=>walk_at "kx")
  (case n_EvenCosts_wishes=>walk_at "kx")
  (case n_House_wishes=>walk_at "kx")
  (case n_Never_word=>walk_at "kx")
  (case k_MOST_ENTRIES=>walk_at "kx")
  (case k_MOST_WAYS=>walk_at "kx")
  (case kn=>walk_at "kx")
  (case kt=>walk_at "kx")
  (case ka_Book=>walk_at "kx")
  (case km_Book=>walk_at "kx")
  (case ka_Found=>walk_at "kx")
  (case km_Found=>walk_at "kx")
  (case ka_Without=>walk_at "kx")
  (case km_Without=>walk_at "kx")
  (case ks_Found=>walk_at "kx")
  (case ky_Found=>walk_at "kx")
  (case kq_Found=>walk_at "kx")
  (case ks_Without=>walk_at "kx")
  (case ky_Without=>walk_at "kx")
  (case kq_Without=>walk_at "kx")
  (case kk_0=>walk_at "kx")
  (case kk_1=>walk_at "kx")
  (case kk_2=>walk_at "kx")
  (case kk_3=>walk_at "kx")
  (case kk_4=>walk_at "kx")
  (case kk_5=>walk_at "kx")
  (case xs_TooWide=>walk_at "kx")
  (case xe_TooWide=>(try dsimp only);k_exc)
  (case kc_TooWide=>walk_at "kx")
  (case ky_TooWide=>walk_at "kx")
  (case xg_TooWide=>walk_at "kx")
  (case xk_TooWide=>walk_at "kx")
  (case hd_TooWide=>walk_at "kx")
  (case ka_TooWide=>walk_at "kx")
  (case km_TooWide=>walk_at "kx")
  (case xv_TooWide=>walk_at "kx")
  (case ks_Faulty=>walk_at "kx")
  (case ky_Faulty=>walk_at "kx")
  (case kq_Faulty=>walk_at "kx")
  (case ks_TooWide=>walk_at "kx")
  (case kq_TooWide=>walk_at "kx")
  (case kxx_0=>walk_at "kx")
  (case kxx_1=>walk_at "kx")
  (case xs_RotaError=>walk_at "kx")
  (case hd_RotaError=>walk_at "kx")
  (case ky_RotaError=>walk_at "kx")
  (case xr_TooWide_RotaError=>walk_at "kx")
  (case xr_TooWide_TooWide=>walk_at "kx")
end
