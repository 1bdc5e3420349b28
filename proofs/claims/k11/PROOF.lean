import PyProof.Rows.All
import Wide.All
import OpenK.AllK
import Wide.FinOn
import HandS.Head0
import HandS.Head1
import HandS.Head2
import HandS.TupSets
import PyProof.ReprRoads
import KE.KeyNested
import HandS.ForMost
import HandS.TupAny
import HandS.TupLe
import HandS.TupMul
import HandS.Wide
import HandS.RaiseMore
import HandS.Flow
import HandS.Dict
import HandS.Exc
import HandS.ExcInit
import HandS.Lambda
import KE.DataEq
import KE.LtData
import KE.DataCmp
import KE.DataMinMax
import KE.DataIsa
import HandS.Walk
import KE.GoesMore
import HandS.Defaults
import KE.SortData
import HandS.FStrTup
import PyProof.CollectIter
import PyProof.Rows.TupIter
import PyProof.WalksMore
import HandS.ExcValue
import HandS.ExcOwn
import HandS.SortInts
import KE.GoesNew
import KE.KDictZip
import HandS.Style
import HandS.DictComp
import HandS.Zip
import PyProof.ReprBulk
import HandS.CallSlots
import HandS.WordsExc
import HandS.IsInst
import HandS.ExcIs
import KE.DataFind
import HandS.TryOnly
import HandS.FStr
import HandS.Text
import PyProof.TupleKey
import PyProof.DictRoadsH
import PyProof.Rows.TupTab
import HandS.Deep
import HandS.ExcField
import HandS.Conv
import PyProof.DictMoreH
import HandS.SetKeys
import HandS.TupLen
import HandS.DictTup
import HandS.Nested
import HandS.EndTab
import KE.KLam
import KE.KNestM
import KE.KTupSum
import PyProof.MaxThree
import KE.KRevSl
import HandS.Strs
import PySem.Challenge.RW_limitrun_k11_expressions_refused
set_option Elab.async false
set_option linter.all false
set_option maxRecDepth 100000
set_option maxHeartbeats 4000000
section
open PySem PySem.W PyProof.Rows PySem.Spec
def Law.loose0:List PySem.Str:= ["_wall","__name__","LimitRunError","SyntaxProblem","InvalidOrdinal","NotLater","ZeroDivisor","BadClaim","BadPath","TooLong","NoEvent","NoVariable","OutOfRange","Incompatible","NotReached","NoBreakpoint","NoMark","InvalidCommand","SMALL","DIGITS","KEYWORDS","SYMBOLS","COMPARISONS","MAX_DIGITS","MAX_NAME","MAX_DEPTH","MAX_TOKENS","END","Token","end_of_run"]
def Law.loose1:List PySem.Str:= ["token_at","tokens_of","LineParser","parse_expression","_law_mixed","_law_source","_law_pick","_law_choose","_law_equal","_law_expression","_law_rank","_law_tokens_of","_law_joined","_law_lexed","_law_stop","_law_accept","_law_demand","_law_whole","_law_chain","_law_under","_law_factor","_law_parsed","_law_is_problem","_law_outcome","_law_expected","_law_changed","_law_bent","_law_deep","_law_nest"]
def Law.loose:List PySem.Str:=Law.loose0++Law.loose1
theorem Law.hd_open:PySem.W.opening (OpenLaw.row PySem.Challenge.rw_limitrun_k11_expressions_refused).prog=PySem.W.plainProg (OpenLaw.row PySem.Challenge.rw_limitrun_k11_expressions_refused).prog.main.scope.names:=by kernel_rfl
theorem Law.hd_fence: ∀s:PySem.Shared,PySem.fenceModules? (OpenLaw.row PySem.Challenge.rw_limitrun_k11_expressions_refused).prog s=some s:=fun s=>by kernel_rfl
theorem Law.hd_def:PySem.W.defOf (view (OpenLaw.row PySem.Challenge.rw_limitrun_k11_expressions_refused).prog [61]) (OpenLaw.row PySem.Challenge.rw_limitrun_k11_expressions_refused).name=some (HandSHeadRun.topDef (OpenLaw.row PySem.Challenge.rw_limitrun_k11_expressions_refused).prog 61,[]):=by kernel_rfl
theorem Law.hd_the:(OpenLaw.row PySem.Challenge.rw_limitrun_k11_expressions_refused).prog.theDef (OpenLaw.row PySem.Challenge.rw_limitrun_k11_expressions_refused).name=some ((HandSHeadRun.topDef (OpenLaw.row PySem.Challenge.rw_limitrun_k11_expressions_refused).prog 61).params,(HandSHeadRun.topDef (OpenLaw.row PySem.Challenge.rw_limitrun_k11_expressions_refused).prog 61).body,(HandSHeadRun.topDef (OpenLaw.row PySem.Challenge.rw_limitrun_k11_expressions_refused).prog 61).scope):=by kernel_rfl
local macro_rules
 | `(tactic| o_head (kHook $k $a $e)) => `(tactic| refine HandSHeadRun.head_any (r := OpenLaw.row PySem.Challenge.rw_limitrun_k11_expressions_refused) (q := view (OpenLaw.row PySem.Challenge.rw_limitrun_k11_expressions_refused).prog [61]) (H := kHook $k $a $e) (ob := fun s => ($a).map (HandSHeadRun.getT s)) (M := 60000) (loose := Law.loose) (d := HandSHeadRun.topDef (OpenLaw.row PySem.Challenge.rw_limitrun_k11_expressions_refused).prog 61) (kwd := []) (fun s => List.map_congr_left fun a _ => HandSHeadRun.getT_eq s a) Law.hd_open Law.hd_fence (fun w os => by kernel_rfl) Law.hd_def Law.hd_the (by kernel_rfl) (by rfl) (by first | assumption | decide +kernel) (by decide +kernel) ⟨rfl, rfl, rfl, rfl, rfl, by decide +kernel⟩ ?_ ?_)
set_option maxHeartbeats 0 in
noncomputable def Law.headQ:{Q:Prop //Q→PySem.Challenge.rw_limitrun_k11_expressions_refused.Holds}:=by
 refine' ⟨_,fun call=>_⟩
 rotate_left
 ·w_on;o_law;k_head
  ·w_witness2
  k_fill
  exact call
end
namespace DL
open PySem PySem.Spec PyProof.Rows L2
def L_ (m:Nat):Prop:=MaskOk m∨m=511
theorem L_.le {m:Nat} (h:L_ m):7≤m∧m≤511∧m % 2=1:=by
 rcases h with(h|h|h)|h<;>subst h<;>decide
theorem agJ (m:Nat) (h:Int) (k:Nat):way m h k≤m:=by
 have hi:SetTable.bits h % (m+1)≤m:=Nat.le_of_lt_succ (Nat.mod_lt _ (Nat.succ_pos _))
 have r:=runEnd_bd hi
 have q:=nth_in (m:=m) k (runAt m (SetTable.bits h % (m+1)) (SetTable.bits h)) (by
  show SetTable.bits h % (m+1)+(SetTable.runEnd m (SetTable.bits h % (m+1))-SetTable.bits h % (m+1))≤m
  omega)
 exact Nat.le_trans (Nat.le_add_right _ _) q
structure TabW (t:SetTable) (hs:List Int):Prop where
 ris:Ris t.place.toList
 dm:t.dummies= #[]
 sz:t.place.size=hs.length
 mw:L_ t.mask
 bd: ∀x∈t.place.toList,x≤t.mask
 reach: ∀(i:Nat) (h:Int) (j:Nat),hs[i]? =some h→t.place.toList[i]? =some j→ ∃k,way t.mask h k=j∧ ∀q,q<k→way t.mask h q∈t.place.toList
theorem TabW.len {t:SetTable} {hs:List Int} (T:TabW t hs):t.place.toList.length=hs.length:=by rw [Array.length_toList,T.sz]
theorem TabW.put {t:SetTable} {hs:List Int} (T:TabW t hs) {h:Int} {K:Nat} (hK:way t.mask h K∉t.place.toList) (hb: ∀k,k<K→way t.mask h k∈t.place.toList):
  SetTable.below t.place (way t.mask h K)≤hs.length∧TabW (t.put (way t.mask h K)).1 (hs.take (SetTable.below t.place (way t.mask h K))++h::hs.drop (SetTable.below t.place (way t.mask h K)))∧
  (t.put (way t.mask h K)).1.place.size=hs.length+1:=by
 have jm:=agJ t.mask h K
 generalize ej:way t.mask h K=j at hK jm ⊢
 have cut:=(below_cut T.ris j).1
 generalize ep:SetTable.below t.place j=p at cut
 have hp:p≤hs.length:=by rw [←T.sz];exact cut
 have hpl:p≤t.place.toList.length:=by rw [T.len];exact hp
 have pl:(t.put j).1.place.toList=t.place.toList.take p++j::t.place.toList.drop p:=by rw [put_place,ep]
 have hsize:(t.put j).1.place.size=hs.length+1:=by rw [←Array.length_toList,pl,len_ins _ hpl,T.len]
 have up: ∀{x:Nat},x∈t.place.toList→x∈(t.put j).1.place.toList:=fun hx=>by rw [pl];exact mem_ins.2 (.inr hx)
 have hnp:t.place[SetTable.below t.place j]? ≠some j:=fun e=>hK (List.mem_of_getElem? (by rw [Array.getElem?_toList];exact e))
 refine⟨hp,⟨ris_insert T.ris hnp,put_dm T.dm j,by rw [len_ins _ hp];exact hsize,T.mw,fun x hx=> ?_,fun i h2 j2 e1 e2=> ?_⟩,hsize⟩
 ·rw [pl]at hx
  rcases mem_ins.1 hx with rfl|hx
  ·exact jm
  ·exact T.bd x hx
 ·rw [tins_get hs hp]at e1
  rw [pl,tins_get _ hpl]at e2
  have old: ∀i,hs[i]? =some h2→t.place.toList[i]? =some j2→ ∃k,way t.mask h2 k=j2∧ ∀q,q<k→way t.mask h2 q∈(t.put j).1.place.toList:=fun i a b=>by
   obtain⟨k,e,z⟩:=T.reach i h2 j2 a b
   exact⟨k,e,fun q hq=>up (z q hq)⟩
  by_cases c:i<p
  ·rw [if_pos c]at e1 e2
   exact old i e1 e2
  ·rw [if_neg c]at e1 e2
   by_cases d:i=p
   ·rw [if_pos d]at e1 e2
    cases e1
    cases e2
    exact⟨K,ej,fun q hq=>up (hb q hq)⟩
   ·rw [if_neg d]at e1 e2
    exact old (i-1) e1 e2
structure yd (P:Program) (w:World) (h:Heap) (a:Addr) (L:List (Addr×List Int)) (es:Array (Int×Value)) (ep:Nat) (t:SetTable):Prop where
 ob: ∃o,h.get? a=some o∧o.ExactSet∧o.data= .set es ep t
 rows:es.toList=rowsOf P w L
 tab:TabW t (L.map fun p=>L2.thash P w p.2)
 nd:(L.map (·.2)).Nodup
 tup: ∀p∈L,IsT P w h p.2 p.1
 plain:t.plain=true
 room:L.length*5<t.mask*3
section
variable {P:Program} {w:World} {A:Around} {E:Value→Shared→Prop} {s:Shared} {a:Addr} {L:List (Addr×List Int)} {es:Array (Int×Value)} {ep:Nat} {t:SetTable}
theorem yd.keep {h h':Heap} (R:yd P w h a L es ep t) (ha: ∀o,h.get? a=some o→h'.get? a=some o) (ht: ∀p∈L,IsT P w h' p.2 p.1):yd P w h' a L es ep t:=by
 obtain⟨o,ho,r⟩:=R.ob
 exact⟨⟨o,ha o ho,r⟩,R.rows,R.tab,R.nd,ht,R.plain,R.room⟩
end
def thash (ks:List Int):Int:=reduceHash (Builtin.Tuple.tupleHashOf (ks.map hashInt))
structure JT (h:Heap) (a:Addr) (L:List (Addr×List Int)) (es:Array (Int×Value)) (t:SetTable):Prop where
 ob: ∃o ep,h.get? a=some o∧o.ExactSet∧o.data= .set es ep t
 rows:es.toList=L.map fun p=>(thash p.2,Value.ref p.1)
 tab:TabW t (L.map fun p=>thash p.2)
 nd:(L.map (·.2)).Nodup
 plain:t.plain=true
 room:L.length*5<t.mask*3
def stO (a:Addr) (L:List (Addr×List Int)):HO:= .ext fun h=>(a==sysModules)=false∧ ∃es t,JT h a L es t
theorem JT.w {P:Program} {w:World} {h:Heap} {a:Addr} {L:List (Addr×List Int)} {es:Array (Int×Value)} {t:SetTable} (R:JT h a L es t) (ht: ∀p∈L,IsT P w h p.2 p.1): ∃ep,yd P w h a L es ep t:=by
 obtain⟨o,ep,h1,h2⟩:=R.ob
 exact⟨ep,⟨o,h1,h2⟩,R.rows,R.tab,R.nd,ht,R.plain,R.room⟩
end DL
namespace DL
open PySem PySem.Spec PyProof.Rows L2
structure xG where
 name:Str
 qual:Str
 params:Arguments
 body:FuncBody
 scope:Scope
 cl:List (Str×Addr)
 c:Addr
def xG.fd (F:xG) (doc pm ctv:Value):FuncData:=
 { name := F.name, qualname := F.qual, params := F.params, body := F.body, scope := F.scope, globals := mainGlobals, closure := F.cl, defaults := .none, kwdefaults := .none, doc := doc, pyModule := pm, annotations := none, code := .ref F.c, closureTuple := ctv, builtins := builtinsNs }
def FnH (f:Addr) (F:xG):HO:= .ext fun h=> ∃(od:Option Addr) (sl:Array (Option Value)) (doc pm ctv:Value),h.get? f=some (⟨.type "function",od,.func (F.fd doc pm ctv),sl⟩:Obj)
inductive DV where
 |d (x:PyData)|raw (v:V)
 |scr (ns:List Int)
 |err (n:Str) (fs:List (Str×PyData))
 |pr (x y:DV)
 |wb (x:DV) (B:Hp)
 |cls (n:Str)|clss (ns:List Str)
 |clo (n:Nat) (F:xG)
 |dz (kvs:List (NestedKey×PyData))
inductive MO where
 |lst (xs:List DV)
 |dk (kvs:List (Key×DV))
 |ins (n:Str) (fs:List (Str×DV))
 |dt (kvs:List (List Int×DV))
 |exo (n:Str) (d:Option Addr)
 |exd (fs:List (Str×DV))
 |cel (x:DV)
 |tab (nm:Nat→Nat→Str)
 |dn (kvs:List (NestedKey×DV))
 |st (ks:List (List Int))
abbrev Mem:=Addr→Option MO
def hide (H:Hp) (M:Mem):Hp:=fun a=>if (M a).isSome then none else H a
def bD (M:Mem) (a:Addr) (o:MO):Mem:=fun b=>if b=a then some o else M b
def cZ (M:Mem) (a:Addr):Mem:=fun b=>if b=a then none else M b
theorem cY {M:Mem} {a:Addr} {o:MO}:bD M a o a=some o:=by unfold bD;rw [if_pos rfl]
theorem fO {M:Mem} {a b:Addr} {o:MO} (h:b≠a):bD M a o b=M b:=by unfold bD;rw [if_neg h]
theorem qH {M:Mem} {a:Addr} {o u:MO}:bD (bD M a o) a u=bD M a u:=by
 funext b;unfold bD;split<;>rfl
def Sub (H H':Hp):Prop:= ∀a o,H a=some o→H' a=some o
theorem Sub.refl (H:Hp):Sub H H:=fun _ _ h=>h
theorem Sub.trans {A B C:Hp} (h:Sub A B) (k:Sub B C):Sub A C:=fun a o e=>k a o (h a o e)
theorem d8 (H:Hp) (M:Mem):Sub (hide H M) H:=fun a o e=>by
 unfold hide at e
 split at e
 ·cases e
 ·exact e
theorem oE {H:Hp} {M:Mem} {a:Addr} {o:HO} (e:H a=some o) (n:M a=none):hide H M a=some o:=by
 unfold hide
 rw [n]
 exact e
theorem uf {H:Hp} {M:Mem} {a:Addr} {o:HO} (e:hide H M a=some o):M a=none:=by
 unfold hide at e
 cases h:M a with
 |none=>rfl
 |some z=>rw [h]at e;cases e
def keyD:Key→PyData
 | .inl i=> .int i
 | .inr x=> .str x
def vD (K:PySem.W.Frag) (H:Hp) (a:Addr) (xs:List V):Prop:=
 (∃o:Obj,H a=some (.frz o (.tup xs))∧o.dict=none)∨
  ∃(o:Obj) (its:Array Value) (n:Nat),K.lookup a=some o∧o.cls= .type "tuple" ∧o.dict=none∧o.data= .seq its n∧its.size≤sizeLine∧Vals xs its.toList
theorem vD.t {K:PySem.W.Frag} {H:Hp} {a:Addr} {xs:List V} (h:vD K H a xs):SqT K H a xs:=by
 rcases h with⟨o,e,_⟩|⟨o,its,n,e1,e2,_,e4,e5,e6⟩
 ·exact .inl (.inr ⟨o,e⟩)
 ·exact .inr ⟨o,its,n,e1,e2,e4,e5,e6⟩
theorem vD.sub {K:PySem.W.Frag} {H H':Hp} {a:Addr} {xs:List V} (s:Sub H H') (h:vD K H a xs):vD K H' a xs:=by
 rcases h with⟨o,e,d⟩|h
 ·exact .inl ⟨o,s _ _ e,d⟩
 ·exact .inr h
mutual
inductive RD (K:PySem.W.Frag) (H:Hp):V→PyData→Prop
 |non:RD K H .non .none
 |bl (b:Bool):RD K H (.bl b) (.bool b)
 |int (i:Int):RD K H (.int i) (.int i)
 |str (x:Str):RD K H (.str x) (.str x)
 |lst {a:Addr} {xs:List V} {ds:List PyData}:H a=some (.lst xs)→cI K H xs ds→RD K H (.ref a) (.list ds)
 |tup {a:Addr} {xs:List V} {ds:List PyData}:vD K H a xs→cI K H xs ds→RD K H (.ref a) (.tuple ds)
 |dct {a:Addr} {kvs:List (Key×V)} {kds:List (PyData×PyData)}:H a=some (.dK kvs)→jj K H kvs kds→RD K H (.ref a) (.dict kds)
inductive jj (K:PySem.W.Frag) (H:Hp):List (Key×V)→List (PyData×PyData)→Prop
 |nil:jj K H [] []
 |cons {k:Key} {v:V} {kvs:List (Key×V)} {d:PyData} {kds:List (PyData×PyData)}:RD K H v d→jj K H kvs kds→jj K H ((k,v)::kvs) ((keyD k,d)::kds)
inductive cI (K:PySem.W.Frag) (H:Hp):List V→List PyData→Prop
 |nil:cI K H [] []
 |cons {v:V} {vs:List V} {d:PyData} {ds:List PyData}:RD K H v d→cI K H vs ds→cI K H (v::vs) (d::ds)
end
theorem jZ {K:PySem.W.Frag} {H H':Hp} {a:Addr} {xs:List V} (e:Sub H H') (h:SqT K H a xs):SqT K H' a xs:=by
 rcases h with(h|⟨o,h⟩)|h
 ·exact .inl (.inl (e _ _ h))
 ·exact .inl (.inr ⟨o,e _ _ h⟩)
 ·exact .inr h
theorem V6 {K:PySem.W.Frag} {H H':Hp} {a:Addr} {xs:List V} (e:Sub H H') (h:SqL K H a xs):SqL K H' a xs:=by
 rcases h with(h|⟨o,h⟩)|h
 ·exact .inl (.inl (e _ _ h))
 ·exact .inl (.inr ⟨o,e _ _ h⟩)
 ·exact .inr h
mutual
theorem RD.sub {K:PySem.W.Frag} {H H':Hp} (s:Sub H H'): ∀{v:V} {d:PyData},RD K H v d→RD K H' v d
 |_,_,.non=> .non
 |_,_,.bl b=> .bl b
 |_,_,.int b=> .int b
 |_,_,.str b=> .str b
 |_,_,.lst h r=> .lst (s _ _ h) (cI.sub s r)
 |_,_,.tup h r=> .tup (h.sub s) (cI.sub s r)
 |_,_,.dct h r=> .dct (s _ _ h) (jj.sub s r)
theorem jj.sub {K:PySem.W.Frag} {H H':Hp} (s:Sub H H'): ∀{v:List (Key×V)} {d:List (PyData×PyData)},jj K H v d→jj K H' v d
 |_,_,.nil=> .nil
 |_,_,.cons h r=> .cons (RD.sub s h) (jj.sub s r)
theorem cI.sub {K:PySem.W.Frag} {H H':Hp} (s:Sub H H'): ∀{v:List V} {d:List PyData},cI K H v d→cI K H' v d
 |_,_,.nil=> .nil
 |_,_,.cons h r=> .cons (RD.sub s h) (cI.sub s r)
end
theorem cI.len {K:PySem.W.Frag} {H:Hp}: ∀{v:List V} {d:List PyData},cI K H v d→v.length=d.length
 |_,_,.nil=>rfl
 |_,_,.cons _ r=>congrArg (· +1) r.len
theorem cI.append {K:PySem.W.Frag} {H:Hp}: ∀{v v':List V} {d d':List PyData},cI K H v d→cI K H v' d'→cI K H (v++v') (d++d')
 |_,_,_,_,.nil,s=>s
 |_,_,_,_,.cons h r,s=> .cons h (r.append s)
theorem cI.take {K:PySem.W.Frag} {H:Hp}: ∀{v:List V} {d:List PyData} (n:Nat),cI K H v d→cI K H (v.take n) (d.take n)
 |_,_,0,_=> .nil
 |_,_,_+1,.nil=> .nil
 |_,_,n+1,.cons h r=> .cons h (r.take n)
theorem cI.drop {K:PySem.W.Frag} {H:Hp}: ∀{v:List V} {d:List PyData} (n:Nat),cI K H v d→cI K H (v.drop n) (d.drop n)
 |_,_,0,r=>r
 |_,_,_+1,.nil=> .nil
 |_,_,n+1,.cons _ r=>r.drop n
theorem cI.get {K:PySem.W.Frag} {H:Hp}: ∀{v:List V} {d:List PyData} {i:Nat} {x:PyData},cI K H v d→d[i]? =some x→ ∃u,v[i]? =some u∧RD K H u x
 |_,_,_,_,.nil,e=>by simp at e
 |_,_,0,_,.cons h _,e=>by simp at e;subst e;exact⟨_,rfl,h⟩
 |_,_,i+1,x,.cons _ r,e=>by
  obtain⟨u,h1,h2⟩:=cI.get (i:=i) (x:=x) r (by simpa using e)
  exact⟨u,by simpa using h1,h2⟩
theorem cI.getV {K:PySem.W.Frag} {H:Hp}: ∀{v:List V} {d:List PyData} {i:Nat} {u:V},cI K H v d→v[i]? =some u→ ∃x,d[i]? =some x∧RD K H u x
 |_,_,_,_,.nil,e=>by simp at e
 |_,_,0,_,.cons h _,e=>by simp at e;subst e;exact⟨_,rfl,h⟩
 |_,_,i+1,x,.cons _ r,e=>by
  obtain⟨u,h1,h2⟩:=cI.getV (i:=i) (u:=x) r (by simpa using e)
  exact⟨u,by simpa using h1,h2⟩
def wN (cls:Value) (d:Option Addr) (a:Addr):HO:= .ext fun h=> ∃(oe:Obj) (vs:Array Value),h.get? a=some oe∧Zc cls d oe∧oe.data= .fields vs
def RF (K:PySem.W.Frag) (H:Hp) (d:Option Addr) (fs:List (Str×PyData)):Prop:=(fs= []∧d=none)∨ ∃dd vs,(fs≠ []∧d=some dd)∧H dd=some (.xd vs)∧ ∀p∈fs,∃v,vs.lookup p.1=some v∧RD K H v p.2
theorem RF.sub {K:PySem.W.Frag} {H H':Hp} (s:Sub H H') {d:Option Addr} {fs:List (Str×PyData)} (h:RF K H d fs):RF K H' d fs:=by
 rcases h with h|⟨dd,vs,e,q,r⟩
 ·exact .inl h
 ·exact .inr ⟨dd,vs,e,s _ _ q,fun p hp=>let ⟨v,l,z⟩:=r p hp;⟨v,l,RD.sub s z⟩⟩
def qj:Key→NestedKey
 | .inl i=> .num i
 | .inr x=> .text x
mutual
def zE:NestedKey→Bool
 | .text _=>false
 | .tup ks=>wR ks
 |_=>true
def wR:List NestedKey→Bool
 | []=>true
 |k::ks=>zE k && wR ks
end
def uL:NestedKey→Bool
 | .num _=>true
 | .text _=>true
 |_=>false
def jV:NestedKey→Bool
 | .tup ks=>wR ks && decide (NestedKey.depthAll ks≤7)
 |_=>false
def yV (a:Addr) (kas:List (NestedKey×Addr×V)):HO:= .ext fun h=>kas.length≤sizeLine∧(a==sysModules)=false∧(∀p∈kas,jV p.1=true)∧ ∃(w0:World) (xs:List (NestedKey×Addr×Value)),Paired (fun p q=>p.1=q.1∧p.2.1=q.2.1∧RelV p.2.2 q.2.2) kas xs∧
 ∃o es ep,h.get? a=some o∧o.ExactDict∧o.data= .dict es ep∧es.toList=xs.map (fun x=>(⟨x.1.hash w0,.ref x.2.1,x.2.2⟩:DictEntry))∧(xs.map (·.1)).Nodup
abbrev wZ (K:PySem.W.Frag) (H:Hp):List (Key×V)→List (NestedKey×PyData)→Prop:=Paired fun p q=>q.1=qj p.1∧RD K H p.2 q.2
abbrev vY (K:PySem.W.Frag) (H:Hp):List (NestedKey×Addr×V)→List (NestedKey×PyData)→Prop:=Paired fun p q=>p.1=q.1∧RD K H (.ref p.2.1) q.1.data∧RD K H p.2.2 q.2
theorem wZ.sub {K:PySem.W.Frag} {H H':Hp} (s:Sub H H'): ∀{v:List (Key×V)} {x:List (NestedKey×PyData)},wZ K H v x→wZ K H' v x
 |_,_,.nil=> .nil
 |_,_,.cons h r=> .cons ⟨h.1,h.2.sub s⟩ (wZ.sub s r)
theorem vY.sub {K:PySem.W.Frag} {H H':Hp} (s:Sub H H'): ∀{v:List (NestedKey×Addr×V)} {x:List (NestedKey×PyData)},vY K H v x→vY K H' v x
 |_,_,.nil=> .nil
 |_,_,.cons h r=> .cons ⟨h.1,h.2.1.sub s,h.2.2.sub s⟩ (vY.sub s r)
def RZ (K:PySem.W.Frag) (H:Hp) (a:Addr) (kvs:List (NestedKey×PyData)):Prop:=(∃o vs,H a=some (.frz o (.dK vs))∧wZ K H vs kvs)∨ ∃o kas,H a=some (.frz o (yV a kas))∧vY K H kas kvs
theorem RZ.sub {K:PySem.W.Frag} {H H':Hp} (s:Sub H H') {a:Addr} {kvs:List (NestedKey×PyData)} (h:RZ K H a kvs):RZ K H' a kvs:=by
 rcases h with⟨o,vs,e,r⟩|⟨o,vs,e,r⟩
 ·exact .inl ⟨o,vs,s _ _ e,wZ.sub s r⟩
 ·exact .inr ⟨o,vs,s _ _ e,vY.sub s r⟩
def HS (K:PySem.W.Frag) (v:V) (n:Str):Prop:= ∃C,v= .ref C∧PySem.W.nsIn K mainGlobals n=some (some (.ref C))
def GJ (K:PySem.W.Frag) (H:Hp):DV→V→Prop
 | .d x,v=>RD K H v x
 | .raw u,v=>v=u
 | .wb x B,v=>GJ K H x v∧Sub B H
 | .cls n,v=>HS K v n
 | .clss ns,v=> ∃a vs,v= .ref a∧SqT K H a vs∧Paired (HS K) vs ns
 | .dz kvs,v=> ∃a,v= .ref a∧RZ K H a kvs
 | .clo _ F,v=> ∃f,v= .ref f∧H f=some (FnH f F)∧H F.c=some (LamX.CodeO F.c F.qual)
 | .pr x y,v=> ∃a v1 v2,v= .ref a∧SqT K H a [v1,v2]∧GJ K H x v1∧GJ K H y v2
 | .scr ns,v=> ∃a,v= .ref a∧SqL K H a (ns.map V.int)
 | .err n fs,v=> ∃(a C:Addr) (d:Option Addr),v= .ref a∧PySem.W.nsIn K mainGlobals n=some (some (.ref C))∧H a=some (wN (.ref C) d a)∧RF K H d fs
abbrev RV (K:PySem.W.Frag) (H:Hp) (v:V) (x:DV):Prop:=GJ K H x v
theorem RV.sub {K:PySem.W.Frag} {H H':Hp} (s:Sub H H') {v:V} {x:DV} (h:RV K H v x):RV K H' v x:=by
 induction x generalizing v with
 |d x=>exact RD.sub s h
 |raw u=>exact h
 |wb x B ih=>exact⟨ih h.1,Sub.trans h.2 s⟩
 |cls n=>exact h
 |clss ns=>
  obtain⟨a,vs,e,q,r⟩:=h
  exact⟨a,vs,e,jZ s q,r⟩
 |clo n F=>
  obtain⟨f,e,q1,q2⟩:=h
  exact⟨f,e,s _ _ q1,s _ _ q2⟩
 |dz kvs=>
  obtain⟨a,e,q⟩:=h
  exact⟨a,e,q.sub s⟩
 |pr x y ih1 ih2=>
  obtain⟨a,v1,v2,e,q,r1,r2⟩:=h
  exact⟨a,v1,v2,e,jZ s q,ih1 r1,ih2 r2⟩
 |scr ns=>
  obtain⟨a,e,q⟩:=h
  exact⟨a,e,V6 s q⟩
 |err n fs=>
  obtain⟨a,C,d,e,c,q,r⟩:=h
  exact⟨a,C,d,e,c,s _ _ q,r.sub s⟩
abbrev bY (K:PySem.W.Frag) (H:Hp):List V→List DV→Prop:=Paired (RV K H)
theorem bY.sub {K:PySem.W.Frag} {H H':Hp} (s:Sub H H'): ∀{v:List V} {x:List DV},bY K H v x→bY K H' v x
 |_,_,.nil=> .nil
 |_,_,.cons h r=> .cons (h.sub s) (bY.sub s r)
theorem bY.append {K:PySem.W.Frag} {H:Hp}: ∀{v v':List V} {d d':List DV},bY K H v d→bY K H v' d'→bY K H (v++v') (d++d')
 |_,_,_,_,.nil,s=>s
 |_,_,_,_,.cons h r,s=> .cons h (bY.append r s)
theorem bY.get {K:PySem.W.Frag} {H:Hp}: ∀{v:List V} {d:List DV} {i:Nat} {x:DV},bY K H v d→d[i]? =some x→ ∃u,v[i]? =some u∧RV K H u x
 |_,_,_,_,.nil,e=>by simp at e
 |_,_,0,_,.cons h _,e=>by simp at e;subst e;exact⟨_,rfl,h⟩
 |_,_,i+1,x,.cons _ r,e=>by
  obtain⟨u,h1,h2⟩:=bY.get (i:=i) (x:=x) r (by simpa using e)
  exact⟨u,by simpa using h1,h2⟩
theorem bY.getV {K:PySem.W.Frag} {H:Hp}: ∀{v:List V} {d:List DV} {i:Nat} {u:V},bY K H v d→v[i]? =some u→ ∃x,d[i]? =some x∧RV K H u x
 |_,_,_,_,.nil,e=>by simp at e
 |_,_,0,_,.cons h _,e=>by simp at e;subst e;exact⟨_,rfl,h⟩
 |_,_,i+1,x,.cons _ r,e=>by
  obtain⟨u,h1,h2⟩:=bY.getV (i:=i) (u:=x) r (by simpa using e)
  exact⟨u,by simpa using h1,h2⟩
theorem bY.set {K:PySem.W.Frag} {H:Hp} {u:V} {x:DV} (h:RV K H u x): ∀{v:List V} {d:List DV} (i:Nat),bY K H v d→bY K H (v.set i u) (d.set i x)
 |_,_,_,.nil=> .nil
 |_,_,0,.cons _ r=> .cons h r
 |_,_,i+1,.cons q r=> .cons q (bY.set h i r)
theorem bY.len {K:PySem.W.Frag} {H:Hp} {v:List V} {d:List DV} (r:bY K H v d):v.length=d.length:=Paired.length r
theorem bY.data {K:PySem.W.Frag} {H:Hp}: ∀{v:List V} {ds:List PyData},bY K H v (ds.map DV.d)→cI K H v ds
 | [],[],_=> .nil
 |v::vs,d::ds,r=>by
  cases r with
  |cons h t=>exact .cons h (bY.data t)
theorem cI.vals {K:PySem.W.Frag} {H:Hp}: ∀{v:List V} {ds:List PyData},cI K H v ds→bY K H v (ds.map DV.d)
 |_,_,.nil=> .nil
 |_,_,.cons h r=> .cons h (cI.vals r)
abbrev dF (K:PySem.W.Frag) (H0:Hp):List (Key×V)→List (Key×DV)→Prop:=Paired fun p q=>p.1=q.1∧RV K H0 p.2 q.2
theorem dF.sub {K:PySem.W.Frag} {H H':Hp} (s:Sub H H'): ∀{v:List (Key×V)} {x:List (Key×DV)},dF K H v x→dF K H' v x
 |_,_,.nil=> .nil
 |_,_,.cons h r=> .cons ⟨h.1,h.2.sub s⟩ (dF.sub s r)
abbrev gJ (K:PySem.W.Frag) (H0:Hp):List (Str×V)→List (Str×DV)→Prop:=Paired fun p q=>p.1=q.1∧RV K H0 p.2 q.2
theorem gJ.sub {K:PySem.W.Frag} {H H':Hp} (s:Sub H H'): ∀{v:List (Str×V)} {x:List (Str×DV)},gJ K H v x→gJ K H' v x
 |_,_,.nil=> .nil
 |_,_,.cons h r=> .cons ⟨h.1,h.2.sub s⟩ (gJ.sub s r)
abbrev vH (K:PySem.W.Frag) (H0:Hp):List (List Int×Addr×V)→List (List Int×DV)→Prop:=Paired fun p q=>p.1=q.1∧vD K H0 p.2.1 (p.1.map V.int)∧RV K H0 p.2.2 q.2
theorem vH.sub {K:PySem.W.Frag} {H H':Hp} (s:Sub H H'): ∀{v:List (List Int×Addr×V)} {x:List (List Int×DV)},vH K H v x→vH K H' v x
 |_,_,.nil=> .nil
 |_,_,.cons h r=> .cons ⟨h.1,h.2.1.sub s,h.2.2.sub s⟩ (vH.sub s r)
def dtO (a:Addr) (kas:List (List Int×Addr×V)):HO:= .ext fun h=>kas.length≤sizeLine∧(a==sysModules)=false∧ ∃xs:List (List Int×Addr×Value),Paired (fun p q=>p.1=q.1∧p.2.1=q.2.1∧RelV p.2.2 q.2.2) kas xs∧
 ∃o es ep,h.get? a=some o∧o.ExactDict∧o.data= .dict es ep∧es.toList=xs.map (fun x=>(⟨thash x.1,.ref x.2.1,x.2.2⟩:DictEntry))∧(xs.map (·.1)).Nodup
abbrev mY (K:PySem.W.Frag) (H:Hp):List (Key×V)→List (NestedKey×DV)→Prop:=Paired fun p q=>q.1=qj p.1∧RV K H p.2 q.2
abbrev lQ (K:PySem.W.Frag) (H:Hp):List (NestedKey×Addr×V)→List (NestedKey×DV)→Prop:=Paired fun p q=>p.1=q.1∧RD K H (.ref p.2.1) q.1.data∧RV K H p.2.2 q.2
theorem mY.sub {K:PySem.W.Frag} {H H':Hp} (s:Sub H H'): ∀{v:List (Key×V)} {x:List (NestedKey×DV)},mY K H v x→mY K H' v x
 |_,_,.nil=> .nil
 |_,_,.cons h r=> .cons ⟨h.1,h.2.sub s⟩ (mY.sub s r)
theorem lQ.sub {K:PySem.W.Frag} {H H':Hp} (s:Sub H H'): ∀{v:List (NestedKey×Addr×V)} {x:List (NestedKey×DV)},lQ K H v x→lQ K H' v x
 |_,_,.nil=> .nil
 |_,_,.cons h r=> .cons ⟨h.1,h.2.1.sub s,h.2.2.sub s⟩ (lQ.sub s r)
def adb (o:Obj) (a:Addr):HO:= .frz o (.ext fun h=>h.get? a=some o)
def RO (K:PySem.W.Frag) (H:Hp) (H0:Hp) (a:Addr):MO→Prop
 | .exo n d=> ∃C,PySem.W.nsIn K mainGlobals n=some (some (.ref C))∧H a=some (exo a C d)
 | .exd fs=> ∃vs,H a=some (exd a vs)∧gJ K H0 vs fs
 | .cel x=> ∃o u v,H a=some (adb o a)∧o.data= .cell (some u)∧RelV v u∧RV K H0 v x
 | .tab nm=> ∃ps,H a=some (.tbl ps)∧TriplesOk ps.toList∧ ∀(pos:Pos) (cv:Value),codeAmong pos ps.toList=some cv→ ∃c,cv= .ref c∧H0 c=some (LamX.CodeO c (nm pos.line pos.col))
 | .ins n fs=> ∃C dx vs,PySem.W.nsIn K mainGlobals n=some (some (.ref C))∧H a=some (.ins C dx vs)∧gJ K H0 vs fs
 | .dn kvs=>(∃vs,H a=some (.dK vs)∧mY K H0 vs kvs)∨ ∃kas,H a=some (yV a kas)∧lQ K H0 kas kvs
 | .dt kvs=> ∃kas,H a=some (dtO a kas)∧vH K H0 kas kvs
 | .st ks=> ∃L,H a=some (stO a L)∧(L.map (·.2)).Perm ks∧ ∀p∈L,vD K H0 p.1 (p.2.map V.int)
 | .lst xs=> ∃vs,H a=some (.lst vs)∧bY K H0 vs xs
 | .dk kvs=> ∃vs,H a=some (.dK vs)∧dF K H0 vs kvs
theorem RO.mono {K:PySem.W.Frag} {H H' H0 H0':Hp} {a:Addr} {o:MO} (h:RO K H H0 a o) (e: ∀u,H a=some u→H' a=some u) (s:Sub H0 H0'):RO K H' H0' a o:=by
 cases o with
 |lst xs=>
  obtain⟨vs,q,r⟩:=h
  exact⟨vs,e _ q,bY.sub s r⟩
 |dk kvs=>
  obtain⟨vs,q,r⟩:=h
  exact⟨vs,e _ q,dF.sub s r⟩
 |ins n fs=>
  obtain⟨C,dx,vs,c,q,r⟩:=h
  exact⟨C,dx,vs,c,e _ q,gJ.sub s r⟩
 |dt kvs=>
  obtain⟨vs,q,r⟩:=h
  exact⟨vs,e _ q,vH.sub s r⟩
 |st ks=>
  obtain⟨L,q,p,r⟩:=h
  exact⟨L,e _ q,p,fun x hx=>(r x hx).sub s⟩
 |exo n d=>
  obtain⟨C,c,q⟩:=h
  exact⟨C,c,e _ q⟩
 |exd fs=>
  obtain⟨vs,q,r⟩:=h
  exact⟨vs,e _ q,gJ.sub s r⟩
 |cel x=>
  obtain⟨o,u,v,q,d,r1,r2⟩:=h
  exact⟨o,u,v,e _ q,d,r1,r2.sub s⟩
 |dn kvs=>
  rcases h with⟨vs,q,r⟩|⟨vs,q,r⟩
  ·exact .inl ⟨vs,e _ q,mY.sub s r⟩
  ·exact .inr ⟨vs,e _ q,lQ.sub s r⟩
 |tab nm=>
  obtain⟨ps,q,t,r⟩:=h
  exact⟨ps,e _ q,t,fun pos cv hc=>let ⟨c,e1,e2⟩:=r pos cv hc;⟨c,e1,s _ _ e2⟩⟩
theorem RO.there {K:PySem.W.Frag} {H H0:Hp} {a:Addr} {o:MO} (h:RO K H H0 a o): ∃u,H a=some u:=by
 cases o with
 |lst xs=>
  obtain⟨vs,q,r⟩:=h
  exact⟨_,q⟩
 |dk kvs=>
  obtain⟨vs,q,r⟩:=h
  exact⟨_,q⟩
 |ins n fs=>
  obtain⟨C,dx,vs,c,q,r⟩:=h
  exact⟨_,q⟩
 |dt kvs=>
  obtain⟨vs,q,r⟩:=h
  exact⟨_,q⟩
 |st ks=>
  obtain⟨L,q,_⟩:=h
  exact⟨_,q⟩
 |exo n d=>
  obtain⟨C,c,q⟩:=h
  exact⟨_,q⟩
 |exd fs=>
  obtain⟨vs,q,r⟩:=h
  exact⟨_,q⟩
 |cel x=>
  obtain⟨o,u,v,q,_⟩:=h
  exact⟨_,q⟩
 |dn kvs=>
  rcases h with⟨vs,q,r⟩|⟨vs,q,r⟩
  ·exact⟨_,q⟩
  ·exact⟨_,q⟩
 |tab nm=>
  obtain⟨ps,q,_⟩:=h
  exact⟨_,q⟩
def cD (K:PySem.W.Frag) (H:Hp) (M:Mem):Prop:= ∀a o,M a=some o→RO K H (hide H M) a o
def Le (H:Hp) (M:Mem) (H':Hp) (M':Mem):Prop:=Sub (hide H M) (hide H' M')
theorem Le.refl (H:Hp) (M:Mem):Le H M H M:=Sub.refl _
theorem Le.trans {H H1 H2:Hp} {M M1 M2:Mem} (a:Le H M H1 M1) (b:Le H1 M1 H2 M2):Le H M H2 M2:=Sub.trans a b
abbrev Slots:=List (Option DV)
def fj (K:PySem.W.Frag) (H0:Hp) (σ:L2.St) (sl:Slots):Prop:=σ.length=sl.length∧ ∀(i:Nat) (x:DV),sl[i]? =some (some x)→ ∃v,σ[i]? =some (some v)∧RV K H0 v x
theorem fj.sub {K:PySem.W.Frag} {H H':Hp} (s:Sub H H') {σ:L2.St} {sl:Slots} (h:fj K H σ sl):fj K H' σ sl:=
 ⟨h.1,fun i x e=>let ⟨v,e1,r⟩:=h.2 i x e;⟨v,e1,r.sub s⟩⟩
theorem fj.set {K:PySem.W.Frag} {H:Hp} {σ:L2.St} {sl:Slots} (h:fj K H σ sl) (i:Nat) {v:V} {x:DV} (r:RV K H v x):fj K H (σ.set i (some v)) (sl.set i (some x)):=by
 refine⟨by simpa using h.1,fun j y e=> ?_⟩
 by_cases hj:i=j
 ·subst hj
  have hi:i<sl.length:=by
   have:=(List.getElem?_eq_some_iff.mp e).1
   simpa using this
  rw [List.getElem?_set_self hi]at e
  cases e
  exact⟨v,by rw [List.getElem?_set_self (by rw [h.1];exact hi)],r⟩
 ·rw [List.getElem?_set_ne hj]at e
  obtain⟨w,e1,r1⟩:=h.2 j y e
  exact⟨w,by rw [List.getElem?_set_ne hj];exact e1,r1⟩
theorem oN {K:PySem.W.Frag} {H:Hp} {M:Mem} (h:cD K H M) {p:Addr} (n:H p=none):M p=none:=by
 cases e:M p with
 |none=>rfl
 |some o=>
  obtain⟨u,q⟩:=(h p _ e).there
  rw [q]at n
  cases n
theorem vC {H:Hp} {M:Mem} {p:Addr} {o:HO} (n:H p=none):Le H M (upd H p o) M:=fun a u e=>by
 have e1:=d8 H M a u e
 refine oE ?_ (uf e)
 rw [upd_ne (ne_of_none e1 n)]
 exact e1
theorem ac3 {H:Hp} {p:Addr} {o:HO} (n:H p=none):Sub H (upd H p o):=fun a u e=>by
 rw [upd_ne (ne_of_none e n)]
 exact e
theorem GZ {K:PySem.W.Frag} {H:Hp} {M:Mem} {p:Addr} {o:HO} (h:cD K H M) (n:H p=none):cD K (upd H p o) M:=fun a u e=>(h a _ e).mono (ac3 n a) (vC n)
theorem BJ {K:PySem.W.Frag} {H:Hp} {M:Mem} {p:Addr} {o:HO} (h:cD K H M) (n:H p=none):hide (upd H p o) M p=some o:=oE upd_same (oN h n)
theorem oF {H:Hp} {M:Mem} {p:Addr} {o:HO} {u:MO} (n:H p=none):Le H M (upd H p o) (bD M p u):=fun a w e=>by
 have e1:=d8 H M a w e
 have ne:=ne_of_none e1 n
 refine oE ?_ ?_
 ·rw [upd_ne ne];exact e1
 ·rw [fO ne];exact uf e
theorem xH {K:PySem.W.Frag} {H:Hp} {M:Mem} {p:Addr} {ho:HO} {mo:MO} (h:cD K H M) (n:H p=none) (r:RO K (upd H p ho) (hide H M) p mo):cD K (upd H p ho) (bD M p mo):=fun a u e=>by
 by_cases ha:a=p
 ·subst ha
  rw [cY]at e
  cases e
  exact r.mono (fun _ q=>q) (oF n)
 ·rw [fO ha]at e
  exact(h a _ e).mono (fun w q=>by rw [upd_ne ha];exact q) (oF n)
theorem Fp {K:PySem.W.Frag} {H:Hp} {M:Mem} {p:Addr} {vs:List V} {xs:List DV} (h:cD K H M) (n:H p=none) (r:bY K (hide H M) vs xs):cD K (upd H p (.lst vs)) (bD M p (.lst xs)):=
 xH h n ⟨vs,upd_same,r⟩
theorem k_ {H:Hp} {M:Mem} {p:Addr} {o:HO} {u w:MO} (e:M p=some w):Le H M (upd H p o) (bD M p u):=fun a z q=>by
 have ne:a≠p:=fun c=>by subst c;rw [uf q]at e;cases e
 refine oE ?_ ?_
 ·rw [upd_ne ne];exact d8 H M a z q
 ·rw [fO ne];exact uf q
theorem uw {K:PySem.W.Frag} {H:Hp} {M:Mem} {p:Addr} {w:MO} {ho:HO} {mo:MO} (h:cD K H M) (e:M p=some w) (r:RO K (upd H p ho) (hide H M) p mo):cD K (upd H p ho) (bD M p mo):=fun a u q=>by
 by_cases ha:a=p
 ·subst ha
  rw [cY]at q
  cases q
  exact r.mono (fun _ q=>q) (k_ e)
 ·rw [fO ha]at q
  exact(h a _ q).mono (fun w q=>by rw [upd_ne ha];exact q) (k_ e)
theorem Hi {K:PySem.W.Frag} {H:Hp} {M:Mem} {p:Addr} {w:MO} {vs:List V} {xs:List DV} (h:cD K H M) (e:M p=some w) (r:bY K (hide H M) vs xs):cD K (upd H p (.lst vs)) (bD M p (.lst xs)):=
 uw h e ⟨vs,upd_same,r⟩
theorem v7 {K:PySem.W.Frag} {H:Hp} {M:Mem} {p:Addr}:Le H M H (cZ M p):=fun a u e=>by
 refine oE (d8 H M a u e) ?_
 unfold cZ
 split
 ·rfl
 ·exact uf e
theorem FJ {K:PySem.W.Frag} {H:Hp} {M:Mem} {p:Addr} (h:cD K H M):cD K H (cZ M p):=fun a u e=>by
 unfold cZ at e
 split at e
 ·cases e
 ·exact(h a _ e).mono (fun _ q=>q) (v7 (K:=K))
@[irreducible] def fK {α:Type} (o:Option α) (k:α→Prop):Prop:=match o with
 |some x=>k x
 |none=>False
theorem bB {α:Type} {o:Option α} {k:α→Prop} {x:α} (e:o=some x) (h:k x):fK o k:=by
 subst e
 unfold fK
 exact h
theorem iK {α:Type} {o:Option α} {k:α→Prop} (h:fK o k): ∃x,o=some x∧k x:=by
 unfold fK at h
 cases o with
 |none=>exact h.elim
 |some x=>exact⟨x,rfl,h⟩
@[irreducible] def getL (M:Mem) (p:Addr) (k:List DV→Prop):Prop:=match M p with
 |some (.lst xs)=>k xs
 |_=>False
theorem eV {M:Mem} {p:Addr} {k:List DV→Prop} {xs:List DV} (e:M p=some (.lst xs)) (h:k xs):getL M p k:=by
 unfold getL
 rw [e]
 exact h
theorem oZ {M:Mem} {p:Addr} {k:List DV→Prop} (h:getL M p k): ∃xs,M p=some (.lst xs)∧k xs:=by
 unfold getL at h
 cases e:M p with
 |none=>rw [e]at h;exact h.elim
 |some o=>
  cases o with
  |lst xs=>rw [e]at h;exact⟨xs,rfl,h⟩
  |dk xs=>rw [e]at h;exact h.elim
  |ins _ _=>rw [e]at h;exact h.elim
  |dt _=>rw [e]at h;exact h.elim
  |exo _ _=>rw [e]at h;exact h.elim
  |exd _=>rw [e]at h;exact h.elim
  |cel _=>rw [e]at h;exact h.elim
  |tab _=>rw [e]at h;exact h.elim
  |dn _=>rw [e]at h;exact h.elim
  |st _=>rw [e]at h;exact h.elim
@[irreducible] def getD (M:Mem) (p:Addr) (k:List (Key×DV)→Prop):Prop:=match M p with
 |some (.dk xs)=>k xs
 |_=>False
theorem Cd {M:Mem} {p:Addr} {k:List (Key×DV)→Prop} {xs:List (Key×DV)} (e:M p=some (.dk xs)) (h:k xs):getD M p k:=by
 unfold getD
 rw [e]
 exact h
theorem Bf {M:Mem} {p:Addr} {k:List (Key×DV)→Prop} (h:getD M p k): ∃xs,M p=some (.dk xs)∧k xs:=by
 unfold getD at h
 cases e:M p with
 |none=>rw [e]at h;exact h.elim
 |some o=>
  cases o with
  |dk xs=>rw [e]at h;exact⟨xs,rfl,h⟩
  |lst xs=>rw [e]at h;exact h.elim
  |ins _ _=>rw [e]at h;exact h.elim
  |dt _=>rw [e]at h;exact h.elim
  |exo _ _=>rw [e]at h;exact h.elim
  |exd _=>rw [e]at h;exact h.elim
  |cel _=>rw [e]at h;exact h.elim
  |tab _=>rw [e]at h;exact h.elim
  |dn _=>rw [e]at h;exact h.elim
  |st _=>rw [e]at h;exact h.elim
@[irreducible] def nj (M:Mem) (p:Addr) (n:Str) (k:List (Str×DV)→Prop):Prop:= ∃fs,M p=some (.ins n fs)∧k fs
theorem gH {M:Mem} {p:Addr} {n:Str} {k:List (Str×DV)→Prop} {xs:List (Str×DV)} (e:M p=some (.ins n xs)) (h:k xs):nj M p n k:=by
 unfold nj
 exact⟨xs,e,h⟩
theorem vh {M:Mem} {p:Addr} {n:Str} {k:List (Str×DV)→Prop} (h:nj M p n k): ∃xs,M p=some (.ins n xs)∧k xs:=by
 unfold nj at h
 exact h
@[irreducible] def getT (M:Mem) (p:Addr) (k:List (List Int×DV)→Prop):Prop:= ∃kvs,M p=some (.dt kvs)∧k kvs
abbrev KD:=DV→Mem→Prop
abbrev TD:=Slots→Mem→KD→Prop
abbrev KB:=Bool→Mem→Prop
abbrev fZ:=Slots→Mem→KB→Prop
abbrev KA:=List DV→Mem→Prop
abbrev eY:=Slots→Mem→KA→Prop
structure fD where
 nx:Slots→Mem→Prop
 rt:KD
 bk:Slots→Mem→Prop:=fun _ _=>False
 ct:Slots→Mem→Prop:=fun _ _=>False
abbrev bK:=fD→Slots→Mem→Prop
def Kt (K:PySem.W.Frag) (H:Hp) (M:Mem) (R:KD) (Q:VK):Prop:= ∀x M',R x M'→ ∀v H',Le H M H' M'→cD K H' M'→RV K (hide H' M') v x→Q v H'
def G7 (K:PySem.W.Frag) (H:Hp) (M:Mem) (R:KB) (Q:Bool→Hp→Prop):Prop:= ∀x M',R x M'→ ∀H',Le H M H' M'→cD K H' M'→Q x H'
def Eu (K:PySem.W.Frag) (H:Hp) (M:Mem) (R:KA) (Q:List V→Hp→Prop):Prop:= ∀x M',R x M'→ ∀v H',Le H M H' M'→cD K H' M'→bY K (hide H' M') v x→Q v H'
def zM (K:PySem.W.Frag) (H:Hp) (M:Mem) (R:Slots→Mem→Prop) (Q:L2.St→Hp→Prop):Prop:= ∀sl M',R sl M'→ ∀σ H',Le H M H' M'→cD K H' M'→fj K (hide H' M') σ sl→Q σ H'
theorem Kt.le {K:PySem.W.Frag} {H H1:Hp} {M M1:Mem} {R:KD} {Q:VK} (k:Kt K H M R Q) (l:Le H M H1 M1):Kt K H1 M1 R Q:=fun x M' r v H' l'=>k x M' r v H' (l.trans l')
theorem G7.le {K:PySem.W.Frag} {H H1:Hp} {M M1:Mem} {R:KB} {Q:Bool→Hp→Prop} (k:G7 K H M R Q) (l:Le H M H1 M1):G7 K H1 M1 R Q:=fun x M' r H' l'=>k x M' r H' (l.trans l')
theorem Eu.le {K:PySem.W.Frag} {H H1:Hp} {M M1:Mem} {R:KA} {Q:List V→Hp→Prop} (k:Eu K H M R Q) (l:Le H M H1 M1):Eu K H1 M1 R Q:=fun x M' r v H' l'=>k x M' r v H' (l.trans l')
theorem zM.le {K:PySem.W.Frag} {H H1:Hp} {M M1:Mem} {R:Slots→Mem→Prop} {Q:L2.St→Hp→Prop} (k:zM K H M R Q) (l:Le H M H1 M1):zM K H1 M1 R Q:=fun x M' r v H' l'=>k x M' r v H' (l.trans l')
def iD (K:PySem.W.Frag) (t:TD):TE:=fun σ H Q=> ∃sl M R,fj K (hide H M) σ sl∧cD K H M∧t sl M R∧Kt K H M R Q
def liftT (K:PySem.W.Frag) (t:fZ):TT:=fun σ H Q=> ∃sl M R,fj K (hide H M) σ sl∧cD K H M∧t sl M R∧G7 K H M R Q
def Xh (K:PySem.W.Frag) (t:eY):TA:=fun σ H Q=> ∃sl M R,fj K (hide H M) σ sl∧cD K H M∧t sl M R∧Eu K H M R Q
def Bx (K:PySem.W.Frag) (t:bK):TS:=fun D σ H=> ∃sl M E,fj K (hide H M) σ sl∧cD K H M∧t E sl M∧zM K H M E.nx D.nx∧Kt K H M E.rt D.rt∧zM K H M E.bk D.bk∧zM K H M E.ct D.ct
abbrev DE (X:Cx) (e:Expr) (t:TD):Prop:=PE X e (iD X.K t)
abbrev DT (X:Cx) (e:Expr) (t:fZ):Prop:=PT X e (liftT X.K t)
abbrev DW (X:Cx) (e:Expr) (t:fZ):Prop:=PW X e (liftT X.K t)
abbrev DA (X:Cx) (es:List Expr) (t:eY):Prop:=PA X es (Xh X.K t)
abbrev DS (X:Cx) (st:Stmt) (t:bK):Prop:=PS X st (Bx X.K t)
abbrev mK (X:Cx) (st:List Stmt) (t:bK):Prop:=PSs X st (Bx X.K t)
section
variable {X:Cx} {e:Expr} {es:List Expr} {st:Stmt} {sts:List Stmt}
theorem PE.imp {t u:TE} (h:PE X e t) (i: ∀σ H Q,u σ H Q→t σ H Q):PE X e u:=⟨fun pins s σ H Q I q=>h.run pins s σ H Q I (i σ H Q q)⟩
theorem PT.imp {t u:TT} (h:PT X e t) (i: ∀σ H Q,u σ H Q→t σ H Q):PT X e u:=⟨fun pins s σ H Q I q=>h.run pins s σ H Q I (i σ H Q q)⟩
theorem PW.imp {t u:TT} (h:PW X e t) (i: ∀σ H Q,u σ H Q→t σ H Q):PW X e u:=⟨fun wh pins s σ H Q I q=>h.run wh pins s σ H Q I (i σ H Q q)⟩
theorem PA.imp {t u:TA} (h:PA X es t) (i: ∀σ H Q,u σ H Q→t σ H Q):PA X es u:=⟨fun pos pins s σ H Q I q=>h.run pos pins s σ H Q I (i σ H Q q)⟩
theorem PS.imp {t u:TS} (h:PS X st t) (i: ∀D σ H,u D σ H→t D σ H):PS X st u:=⟨fun pins s σ H D I q=>h.run pins s σ H D I (i D σ H q)⟩
theorem PSs.imp {t u:TS} (h:PSs X sts t) (i: ∀D σ H,u D σ H→t D σ H):PSs X sts u:=⟨fun pins s σ H D I q=>h.run pins s σ H D I (i D σ H q)⟩
end
end DL
namespace DL
open PySem PySem.Spec PyProof.Rows L2
structure Room (k:Nat) (A:Around):Prop where
 hd:A.handled=none
 dp:A.depth+k+40<recursionLimit
 un:A.units+16*k+400<cLine
theorem Room.mono {j k:Nat} {A:Around} (r:Room k A) (h:j≤k):Room j A:=⟨r.hd,by have:=r.dp;omega,by have:=r.un;omega⟩
theorem Room.kit {k:Nat} {A:Around} (r:Room k A):L2.Room 8 A:=⟨r.hd,by have:=r.dp;omega,by have:=r.un;omega⟩
theorem Room.deeper {k:Nat} {A:Around} (r:Room (k+1) A) (env:Env):Room k (A.deeper env):=
 ⟨r.hd,by have:=r.dp;show A.depth+1+k+40<_;omega,by have:=r.un;show A.units+3+16*k+400<_;omega⟩
theorem Room.in1 {k:Nat} {A:Around} (r:Room (k+1) A):Room k A.in1:=
 ⟨r.hd,by have:=r.dp;show A.depth+k+40<_;omega,by have:=r.un;show A.units+1+16*k+400<_;omega⟩
theorem Room.make {k:Nat} {A:Around} (r:Room (k+1) A) (C:Addr) (us:List Value) (kw:List (Str×Value)):Room k (A.under (.builtin "type.__call__" ⟨.ref C::us,kw⟩)):=
 ⟨r.hd,by have:=r.dp;rw [make_depth];omega,by have:=r.un;rw [make_units];omega⟩
theorem Room.depth {k:Nat} {A:Around} (r:Room k A):A.depth<recursionLimit:=r.kit.depth
theorem Room.units {k:Nat} {A:Around} (r:Room k A):A.units+64<cLine:=r.kit.units
section
variable {X:Cx} {a b c e:Expr} {es:List Expr} {pos:Pos} {ta tb tc te:TD} {tA tB':fZ}
def yD (H:Hp) (xs:List V) (Q:VK):Prop:= ∀(p:Addr) (o:Obj),H p=none→o.dict=none→Q (.ref p) (upd H p (.frz o (.tup xs)))
theorem Dj {pins:List (Addr×Obj)} {σ:L2.St} {H:Hp} {s:Shared} {xs:List V} {its:List Value} {Q:VK} (I:Inv X pins σ H s) (r:Vals xs its) (hz:xs.length≤sizeLine) (q:yD H xs Q):
  EP X pins σ Q (.ref s.heap.objs.size) {s with heap:=s.heap.push {cls:= .type "tuple",data:= .seq its.toArray}}:=
 ⟨.ref s.heap.objs.size,upd H s.heap.objs.size (.frz {cls:= .type "tuple",data:= .seq its.toArray} (.tup xs)),I.laid (t':=s.toks) (fun b u e=>Heap.get?_push_of_some _ e) (Nat.le_refl _) ⟨Heap.get?_push_size _ rfl,hz,its,r,IsTup.new _ _⟩,rfl,q _ _ (I.hok.fresh (Nat.le_refl _)) rfl⟩
def afQ (t:TA):TE:=fun σ H Q=>t σ H fun xs H1=>xs.length≤sizeLine∧yD H1 xs Q
theorem acS {x1:Nat} {t:TA} (h:PA X es t):PE X (.Tuple es x1 pos) (afQ t):=
 ⟨fun pins s σ H Q I hq=>wpAny_Tuple_spliced (thn (h.run pos pins s σ H _ I hq) fun us s1 ⟨xs,H1,I1,r,z,q⟩=>⟨by rw [←r.length];exact z,Dj I1 r z q⟩)⟩
def adK (K:PySem.W.Frag):R2:=fun x y H Q=> ∃a b xs ys,x= .ref a∧y= .ref b∧SqT K H a xs∧SqT K H b ys∧xs.length+ys.length≤sizeLine∧
 (xs= []→Q (.ref b) H)∧(xs≠ []→ys= []→Q (.ref a) H)∧(xs≠ []→ys≠ []→yD H (xs++ys) Q)
theorem adq:OpR X (binaryOp .Add) (adK X.K):=by
 rintro pins s σ H x y v u Q I rx ry ⟨a,b,xs,ys,rfl,rfl,ha,hb,hz,q0,q1,q2⟩
 cases rx
 cases ry
 obtain⟨is,r1,p1,_⟩:=I.tuple ha
 obtain⟨js,r2,p2,_⟩:=I.tuple hb
 by_cases hx:xs= []
 ·subst hx
  cases r1
  exact cat_tup0 p1 p2 ⟨.ref b,H,I,rfl,q0 rfl⟩
 ·exact HT.cat_tup p1 p2 (fun z=>hx (r1.nil_iff.mp z)) (fun z=>⟨.ref a,H,I,rfl,q1 hx (r2.nil_iff.mp z)⟩) (fun z=>Dj I (r1.append r2) (by rw [List.length_append];exact hz) (q2 hx fun w=>z (r2.nil_iff.mpr w))) (by rw [←r1.length,←r2.length];exact hz)
def aci (K:PySem.W.Frag):V→Option Int→Option Int→Hp→VK→Prop:=fun x lo hi H Q=> ∃a xs,x= .ref a∧SqT K H a xs∧
 (HT.sIx xs.length 0 lo=0∧HT.sIx xs.length xs.length hi=xs.length→Q (.ref a) H)∧(¬(HT.sIx xs.length 0 lo=0∧HT.sIx xs.length xs.length hi=xs.length)→yD H (cutV xs lo hi) Q)
theorem aco:SlR X (aci X.K):=by
 rintro pins s σ H x v vl vu lo hi sl Q I rx hs pl pu ⟨a,xs,rfl,hx,q1,q2⟩
 cases rx
 obtain⟨its,r,ht,hz⟩:=I.tuple hx
 have hl:its.toArray.size=xs.length:=by rw [List.size_toArray,r.length]
 refine⟨"tuple",_,slot_tuple_getitem.lookup,ht.typeIs,?_⟩
 by_cases hw:HT.sIx xs.length 0 lo=0∧HT.sIx xs.length xs.length hi=xs.length
 ·exact getItem_tuple_whole ht hs pl pu (by rw [hl];exact hw) ⟨.ref a,H,I,rfl,q1 hw⟩
 ·refine HT.getItem_tuple_cut ht hs pl pu (by rw [hl];exact hw) ?_ (by rw [hl];exact hz)
  rw [hl]
  exact Dj I ((r.drop (HT.sIx xs.length 0 lo)).take (HT.sIx xs.length xs.length hi-HT.sIx xs.length 0 lo)) (Nat.le_trans (cutV_length xs lo hi) hz) (q2 hw)
def ao (i:Nat):TD:=fun sl M R=>match sl[i]? with
 |some (some x)=>R x M
 |_=>False
def dC (x:DV):TD:=fun _ M R=>R x M
theorem au (i:Nat) {x:Str} {pos:Pos} (hN:X.N[i]? =some x:=by rfl) (hv:Vis X.env.scope x:=by first|exact Or.inl rfl|exact Or.inr (Or.inl rfl)|exact Or.inr (Or.inr rfl)) (hd:(x==("__debug__" :Str))=false:=by decide)
  (hcd:(x==("__classdict__" :Str))=false:=by decide):DE X (.Name x pos) (ao i):=
 PE.imp (pe_var hN hv hd hcd) fun σ H Q ⟨sl,M,R,hs,hm,ht,k⟩=>by
  unfold ao at ht
  split at ht
  ·rename_i x e
   obtain⟨v,e1,r⟩:=hs.2 i x e
   exact⟨v,e1,k x M ht v H (Le.refl _ _) hm r⟩
  ·exact ht.elim
theorem wg {v:V} {x:DV} (h:PE X e (tC v)) (r: ∀H,RV X.K H v x):DE X e (dC x):=
 PE.imp h fun σ H Q ⟨sl,M,R,hs,hm,ht,k⟩=>k x M ht v H (Le.refl _ _) hm (r _)
theorem aP {i:Int} {j pos}:DE X (.Constant (.int i) j pos) (dC (.d (.int i))):=wg pe_int fun _=> .int i
theorem CK {i:Bool} {j pos}:DE X (.Constant (.bool i) j pos) (dC (.d (.bool i))):=wg pe_bl fun _=> .bl i
theorem fY {j pos}:DE X (.Constant .none j pos) (dC (.d .none)):=wg pe_non fun _=> .non
theorem aK {x:Str} {j pos}:DE X (.Constant (.str x) j pos) (dC (.d (.str x))):=wg pe_str fun _=> .str x
theorem ae7 {x:Str} {v:V} {u:Value} {d:DV} {pos:Pos} (hg:Gl X x) (hm:X.mg x=some u) (r:RelV v u) (rd: ∀H,RV X.K H v d) (hd:(x==("__debug__" :Str))=false:=by decide):DE X (.Name x pos) (dC d):=
 wg (pe_glob hg hm r hd) rd
abbrev G2:=DV→DV→Mem→KD→Prop
def Ib (K:PySem.W.Frag) (g:G2):R2:=fun x y H Q=> ∃dx dy M R,cD K H M∧RV K (hide H M) x dx∧RV K (hide H M) y dy∧g dx dy M R∧Kt K H M R Q
abbrev iW (X:Cx) (f:Value→Value→Sem Value) (g:G2):Prop:=OpR X f (Ib X.K g)
def aA (g:G2) (ta tb:TD):TD:=fun sl M R=>ta sl M fun x M1=>tb sl M1 fun y M2=>g x y M2 R
theorem Ht {g:G2} {σ:L2.St} {H:Hp} {Q:VK} (h:iD X.K (aA g ta tb) σ H Q):tOp (Ib X.K g) (iD X.K ta) (iD X.K tb) σ H Q:=by
 obtain⟨sl,M,R,hs,hm,ht,k⟩:=h
 exact⟨sl,M,_,hs,hm,ht,fun x M1 h1 v H1 l1 m1 r1=>⟨sl,M1,_,hs.sub l1,m1,h1,fun y M2 h2 u H2 l2 m2 r2=>⟨x,y,M2,R,m2,r1.sub l2,r2,h2,k.le (l1.trans l2)⟩⟩⟩
theorem aU {op:Operator} {g:G2} (ho:iW X (binaryOp op) g) (ha:DE X a ta) (hb:DE X b tb):DE X (.BinOp a op b pos) (aA g ta tb):=
 PE.imp (pe_op ho ha hb) fun _ _ _ h=>Ht h
theorem tX {op:CmpOp} {g:G2} (ho:iW X (compareOp op) g) (ha:DE X a ta) (hb:DE X b tb) (hm:behindInMarks op b=false):DE X (.Compare a [op] [b] pos) (aA g ta tb):=
 PE.imp (pe_cmpR ho ha hb hm) fun _ _ _ h=>Ht h
def dB (t:TD):fZ:=fun sl M R=>t sl M fun x M1=>match x with
 | .d (.bool k)=>R k M1
 |_=>False
theorem JG {t:TD} {σ:L2.St} {H:Hp} {Q:Bool→Hp→Prop} (h:liftT X.K (dB t) σ H Q):iD X.K t σ H fun x H'=> ∃k,x= .bl k∧Q k H':=by
 obtain⟨sl,M,R,hs,hm,ht,k⟩:=h
 refine⟨sl,M,_,hs,hm,ht,fun x M1 h1 v H1 l1 m1 r1=> ?_⟩
 split at h1
 ·cases r1
  exact⟨_,rfl,k _ M1 h1 H1 l1 m1⟩
 ·exact h1.elim
theorem bJ {op:CmpOp} {g:G2} (ho:iW X (compareOp op) g) (ha:DE X a ta) (hb:DE X b tb) (hm:behindInMarks op b=false):DT X (.Compare a [op] [b] pos) (dB (aA g ta tb)):=
 PT.imp (pt_cmpR ho ha hb hm) fun σ H Q h=>Ht (JG h)
theorem Fl (h:DE X e te) (he: ∀whole,isTrue e X.env whole=(do let v←whole;standAt e.pos;holding [v] (truthy v)):=by intro _;rfl):DT X e (dB te):=
 PT.imp (pt_val h he) fun σ H Q h=>JG h
def jG (t u:fZ):fZ:=fun sl M R=>t sl M fun k M1=>if k=true then u sl M1 R else R false M1
def mD (t u:fZ):fZ:=fun sl M R=>t sl M fun k M1=>if k=true then R true M1 else u sl M1 R
def KN (t:fZ):fZ:=fun sl M R=>t sl M fun k M1=>R (!k) M1
variable {rest:List Expr}
theorem qu (h:DT X a tA):DW X (.BoolOp .And [a] pos) tA:=pw_and1 h
theorem tD (h:DT X a tA):DW X (.BoolOp .Or [a] pos) tA:=pw_or1 h
theorem oX (ha:DT X a tA) (hb:DW X (.BoolOp .And (b::rest) pos) tB'):DW X (.BoolOp .And (a::b::rest) pos) (jG tA tB'):=
 PW.imp (pw_and ha hb) fun σ H Q ⟨sl,M,R,hs,hm,ht,k⟩=>⟨sl,M,_,hs,hm,ht,fun x M1 h1 H1 l1 m1=>by
  cases x with
  |true=>exact⟨sl,M1,R,hs.sub l1,m1,h1,k.le l1⟩
  |false=>exact k _ M1 h1 H1 l1 m1⟩
theorem qT (ha:DT X a tA) (hb:DW X (.BoolOp .Or (b::rest) pos) tB'):DW X (.BoolOp .Or (a::b::rest) pos) (mD tA tB'):=
 PW.imp (pw_or ha hb) fun σ H Q ⟨sl,M,R,hs,hm,ht,k⟩=>⟨sl,M,_,hs,hm,ht,fun x M1 h1 H1 l1 m1=>by
  cases x with
  |false=>exact⟨sl,M1,R,hs.sub l1,m1,h1,k.le l1⟩
  |true=>exact k _ M1 h1 H1 l1 m1⟩
theorem adZ (h:DT X a tA):DT X (.UnaryOp .Not a pos) (KN tA):=
 PT.imp (pt_not h) fun σ H Q ⟨sl,M,R,hs,hm,ht,k⟩=>⟨sl,M,_,hs,hm,ht,fun x M1 h1 H1 l1 m1=>k _ M1 h1 H1 l1 m1⟩
theorem jU (h:DW X e tA):DT X e tA:=PW.pt h
def jY (t:fZ) (ta tb:TD):TD:=fun sl M R=>t sl M fun k M1=>if k=true then ta sl M1 R else tb sl M1 R
theorem n_ (hc:DT X c tA) (ha:DE X a ta) (hb:DE X b tb):DE X (.IfExp c a b pos) (jY tA ta tb):=
 PE.imp (pe_ifExp hc ha hb) fun σ H Q ⟨sl,M,R,hs,hm,ht,k⟩=>⟨sl,M,_,hs,hm,ht,fun x M1 h1 H1 l1 m1=>by
  cases x with
  |true=>exact⟨sl,M1,R,hs.sub l1,m1,h1,k.le l1⟩
  |false=>exact⟨sl,M1,R,hs.sub l1,m1,h1,k.le l1⟩⟩
def uh (ta tb:TD):TD:=fun sl M R=>ta sl M fun x M1=>match x with
 | .d (.bool k)=>if k=true then tb sl M1 R else R (.d (.bool false)) M1
 |_=>False
def Jx (ta tb:TD):TD:=fun sl M R=>ta sl M fun x M1=>match x with
 | .d (.bool k)=>if k=true then R (.d (.bool true)) M1 else tb sl M1 R
 |_=>False
theorem CJ {op} (h:DE X a ta):DE X (.BoolOp op [a] pos) ta:=pe_one h
theorem Dr (ha:DE X a ta) (hb:DE X (.BoolOp .And (b::rest) pos) tb):DE X (.BoolOp .And (a::b::rest) pos) (uh ta tb):=
 PE.imp (pe_and ha hb) fun σ H Q ⟨sl,M,R,hs,hm,ht,k⟩=>⟨sl,M,_,hs,hm,ht,fun x M1 h1 v H1 l1 m1 r1=>by
  split at h1
  ·rename_i kk
   cases r1
   refine⟨_,rfl,?_⟩
   cases kk with
   |true=>exact⟨sl,M1,R,hs.sub l1,m1,h1,k.le l1⟩
   |false=>exact k _ M1 h1 _ H1 l1 m1 (.bl _)
  ·exact h1.elim⟩
theorem acv (ha:DE X a ta) (hb:DE X (.BoolOp .Or (b::rest) pos) tb):DE X (.BoolOp .Or (a::b::rest) pos) (Jx ta tb):=
 PE.imp (pe_or ha hb) fun σ H Q ⟨sl,M,R,hs,hm,ht,k⟩=>⟨sl,M,_,hs,hm,ht,fun x M1 h1 v H1 l1 m1 r1=>by
  split at h1
  ·rename_i kk
   cases r1
   refine⟨_,rfl,?_⟩
   cases kk with
   |false=>exact⟨sl,M1,R,hs.sub l1,m1,h1,k.le l1⟩
   |true=>exact k _ M1 h1 _ H1 l1 m1 (.bl _)
  ·exact h1.elim⟩
def g2 (f:PyData→PyData→Mem→KD→Prop):G2
 | .d x,.d y,M,R=>f x y M R
 |_,_,_,_=>False
theorem pH {f:Value→Value→Sem Value} {g:PyData→PyData→Mem→KD→Prop}
  (h: ∀pins s σ H x y v u Q dx dy M R,Inv X pins σ H s→RelV x v→RelV y u→cD X.K H M→RD X.K (hide H M) x dx→RD X.K (hide H M) y dy→g dx dy M R→Kt X.K H M R Q→wpAny (model X.prog X.w) X.A (f v u) (EP X pins σ Q) X.xe s):
  iW X f (g2 g):=by
 intro pins s σ H x y v u Q I rx ry hh
 obtain⟨dx,dy,M,R,hm,r1,r2,hg,k⟩:=hh
 cases dx with
 |raw _=>exact hg.elim
 |scr _=>exact hg.elim
 |err _ _=>exact hg.elim
 |pr _ _=>exact hg.elim
 |wb _ _=>exact hg.elim
 |cls _=>exact hg.elim
 |clss _=>exact hg.elim
 |clo _ _=>exact hg.elim
 |dz _=>exact hg.elim
 |d dx=>
  cases dy with
  |raw _=>exact hg.elim
  |scr _=>exact hg.elim
  |err _ _=>exact hg.elim
  |pr _ _=>exact hg.elim
  |wb _ _=>exact hg.elim
  |cls _=>exact hg.elim
  |clss _=>exact hg.elim
  |clo _ _=>exact hg.elim
  |dz _=>exact hg.elim
  |d dy=>exact h pins s σ H x y v u Q dx dy M R I rx ry hm r1 r2 hg k
theorem dJ {K:PySem.W.Frag} {H:Hp} {M:Mem} {R:KD} {Q:VK} {x:DV} {v:V} (k:Kt K H M R Q) (hm:cD K H M) (h:R x M) (r:RV K (hide H M) v x):Q v H:=k x M h v H (Le.refl _ _) hm r
theorem uU {K:PySem.W.Frag} {H:Hp} {M:Mem} {R:KD} {Q:VK} {x:DV} {o:HO} {p:Addr} (k:Kt K H M R Q) (hm:cD K H M) (n:H p=none) (h:R x M) (r:RV K (hide (upd H p o) M) (.ref p) x):Q (.ref p) (upd H p o):=
 k x M h _ _ (vC n) (GZ hm n) r
theorem aez {K:PySem.W.Frag} {H:Hp} {M:Mem} {p:Addr} {o:Obj} {xs:List V} {ds:List PyData} (hm:cD K H M) (n:H p=none) (d:o.dict=none) (r:cI K (hide H M) xs ds):RD K (hide (upd H p (.frz o (.tup xs))) M) (.ref p) (.tuple ds):=
 .tup (.inl ⟨o,BJ hm n,d⟩) (cI.sub (vC n) r)
theorem Gu {K:PySem.W.Frag} {H:Hp} {M:Mem} {R:KD} {Q:VK} {xs:List V} {ds:List PyData} (k:Kt K H M R Q) (hm:cD K H M) (h:R (.d (.tuple ds)) M) (r:cI K (hide H M) xs ds):yD H xs Q:=
 fun p o n d=>uU k hm n h (aez hm n d r)
theorem wU {K:PySem.W.Frag} {H:Hp} {M:Mem} {p:Addr} {xs:List V} {ds:List PyData} (hm:cD K H M) (n:H p=none) (r:cI K (hide H M) xs ds):RD K (hide (upd H p (.lst xs)) M) (.ref p) (.list ds):=
 .lst (BJ hm n) (cI.sub (vC n) r)
def intOp (f:Int→Int→Int):PyData→PyData→Mem→KD→Prop
 | .int i,.int j,M,R=>R (.d (.int (f i j))) M
 |_,_,_,_=>False
def jX (f:Int→Int→Bool):PyData→PyData→Mem→KD→Prop
 | .int i,.int j,M,R=>R (.d (.bool (f i j))) M
 |_,_,_,_=>False
def aX:PyData→PyData→Mem→KD→Prop
 | .int i,.int j,M,R=>R (.d (.int (i+j))) M
 | .str x,.str y,M,R=>x.length+y.length≤sizeLine∧R (.d (.str (x++y))) M
 | .tuple x,.tuple y,M,R=>x.length+y.length≤sizeLine∧R (.d (.tuple (x++y))) M
 | .list x,.list y,M,R=>x.length+y.length≤sizeLine∧R (.d (.list (x++y))) M
 |_,_,_,_=>False
theorem bH:iW X (binaryOp .Add) (g2 aX):=pH fun pins s σ H x y v u Q dx dy M R I rv ru hm rx ry hg k=>by
 cases rx with
 |int i=>
  cases ry with
  |int j=>exact op_add pins s σ H _ _ v u Q I rv ru ⟨i,j,rfl,rfl,dJ k hm hg (.int _)⟩
  |_=>exact hg.elim
 |str i=>
  cases ry with
  |str j=>exact op_add_str pins s σ H _ _ v u Q I rv ru ⟨i,j,rfl,rfl,hg.1,dJ k hm hg.2 (.str _)⟩
  |_=>exact hg.elim
 |tup h1 r1=>
  cases ry with
  |tup h2 r2=>
   rename_i a xs ds b ys es
   have l1:=r1.len
   have l2:=r2.len
   refine adq pins s σ H _ _ v u Q I rv ru ⟨_,_,_,_,rfl,rfl,jZ (d8 _ _) h1.t,jZ (d8 _ _) h2.t,by rw [l1,l2];exact hg.1,fun z=> ?_,fun _ z=> ?_,fun _ _=> ?_⟩
   ·subst z
    cases r1
    exact dJ k hm hg.2 (.tup h2 (by simpa using r2))
   ·subst z
    cases r2
    exact dJ k hm hg.2 (.tup h1 (by simpa using r1))
   ·exact Gu k hm hg.2 (r1.append r2)
  |_=>exact hg.elim
 |lst h1 r1=>
  cases ry with
  |lst h2 r2=>
   have l1:=r1.len
   have l2:=r2.len
   exact op_cat pins s σ H _ _ v u Q I rv ru ⟨_,_,_,_,rfl,rfl,d8 _ _ _ _ h1,d8 _ _ _ _ h2,by rw [l1,l2];exact hg.1,fun p n=>uU k hm n hg.2 (wU hm n (r1.append r2))⟩
  |_=>exact hg.elim
 |_=>exact hg.elim
theorem ahE {f:Value→Value→Sem Value} {g:Int→Int→Int} (h:OpR X f (rI0 fun i j=> .int (g i j))):iW X f (g2 (intOp g)):=pH fun pins s σ H x y v u Q dx dy M R I rv ru hm rx ry hg k=>by
 cases rx with
 |int i=>
  cases ry with
  |int j=>exact h pins s σ H _ _ v u Q I rv ru ⟨i,j,rfl,rfl,dJ k hm hg (.int _)⟩
  |_=>exact hg.elim
 |_=>exact hg.elim
theorem WD {f:Value→Value→Sem Value} {g:Int→Int→Bool} (h:OpR X f (rI0 fun i j=> .bl (g i j))):iW X f (g2 (jX g)):=pH fun pins s σ H x y v u Q dx dy M R I rv ru hm rx ry hg k=>by
 cases rx with
 |int i=>
  cases ry with
  |int j=>exact h pins s σ H _ _ v u Q I rv ru ⟨i,j,rfl,rfl,dJ k hm hg (.bl _)⟩
  |_=>exact hg.elim
 |_=>exact hg.elim
def jA (C:Int→Int→Prop) (f:Int→Int→Int):PyData→PyData→Mem→KD→Prop
 | .int i,.int j,M,R=>C i j∧R (.d (.int (f i j))) M
 |_,_,_,_=>False
theorem Ju {f:Value→Value→Sem Value} {C:Int→Int→Prop} {g:Int→Int→Int} (h:OpR X f (rI C fun i j=> .int (g i j))):iW X f (g2 (jA C g)):=pH fun pins s σ H x y v u Q dx dy M R I rv ru hm rx ry hg k=>by
 cases rx with
 |int i=>
  cases ry with
  |int j=>exact h pins s σ H _ _ v u Q I rv ru ⟨i,j,rfl,rfl,hg.1,dJ k hm hg.2 (.int _)⟩
  |_=>exact hg.elim
 |_=>exact hg.elim
theorem zj:iW X (binaryOp .Sub) (g2 (intOp (· - ·))):=ahE op_sub
theorem qU:iW X (binaryOp .Mod) (g2 (jA (fun _ j=>0<j) (· % ·))):=Ju op_mod
theorem CP:iW X (binaryOp .FloorDiv) (g2 (jA CDivW (· / ·))):=Ju op_fdivW
theorem V5:iW X (binaryOp .Pow) (g2 (jA CPow fun i j=>i^j.toNat)):=Ju op_pow
theorem rM:iW X (compareOp .Gt) (g2 (jX fun i j=>decide (j<i))):=WD op_gt
theorem Zd:iW X (compareOp .GtE) (g2 (jX fun i j=>decide (j≤i))):=WD op_ge
mutual
def tY:PyData→Bool
 | .list _=>false
 | .tuple xs=>Et xs
 | .dict kvs=>FQ kvs
 |_=>true
def Et:List PyData→Bool
 | []=>true
 |x::xs=>tY x && Et xs
def FQ:List (PyData×PyData)→Bool
 | []=>true
 |(_,v)::r=>tY v && FQ r
end
theorem ahn {h:Heap}: ∀{k:Key} {v:Value},keyIs k v=true→Reads h v (keyD k) []:=fun {k v} e=>by
 rcases keyIs_shape e with⟨i,t,rfl,rfl⟩|⟨x,t,rfl,rfl⟩
 ·exact Reads.int i t
 ·exact Reads.str x t
section
variable {pins:List (Addr×Obj)} {σ:L2.St} {H:Hp} {s:Shared}
mutual
theorem RD.readsI (I:Inv X pins σ H s): ∀{v:V} {d:PyData},RD X.K H v d→ ∀u,RelV v u→ ∃as,Reads s.heap u d as∧(tY d=true→sysModules∉as)
 |_,_,.non,u,r=>by cases r;exact⟨_,Reads.none,fun _=>List.not_mem_nil⟩
 |_,_,.bl b,u,r=>by cases r;exact⟨_,Reads.bool b,fun _=>List.not_mem_nil⟩
 |_,_,.int i,u,r=>by obtain⟨t,rfl⟩:=r;exact⟨_,Reads.int i t,fun _=>List.not_mem_nil⟩
 |_,_,.str x,u,r=>by obtain⟨t,rfl⟩:=r;exact⟨_,Reads.str x t,fun _=>List.not_mem_nil⟩
 |_,_,.lst h q,u,r=>by
  cases r
  obtain⟨its,rv,⟨o,n,ho,hc,_,hd⟩,_⟩:=I.list (SqL.of h)
  obtain⟨as,hr,_⟩:=cI.readsI I q its rv
  exact⟨_,Reads.list ho hc hd hr,fun h=>(by simp [tY]at h)⟩
 |_,_,.tup h q,u,r=>by
  cases r
  obtain⟨its,rv,⟨o,ho,hc,n,hd⟩,_⟩:=I.tuple h.t
  obtain⟨as,hr,hn⟩:=cI.readsI I q its rv
  exact⟨_,Reads.tuple ho hc hd hr,fun h=>hn (by simpa [tY]using h)⟩
 |_,_,.dct h q,u,r=>by
  cases r
  obtain⟨_,hsm,vs,rel,o,es,ep,ho,hx,hd,_,hp,_⟩:=dk_of I.hok h
  obtain⟨as,bs,h1,h2,hn⟩:=jj.readsI I q vs es.toList rel hp
  refine⟨_,Reads.dict ho hx.1 hd h1 h2,fun hl=> ?_⟩
  obtain⟨n1,n2⟩:=hn (by simpa [tY]using hl)
  have n0: ¬sysModules=_:=fun e=>(beq_eq_false_iff_ne.mp hsm) e.symm
  intro hm
  rcases List.mem_append.mp hm with hm|hm
  ·rcases List.mem_cons.mp hm with hm|hm
   ·exact n0 hm
   ·exact n1 hm
  ·exact n2 hm
theorem jj.readsI (I:Inv X pins σ H s): ∀{kvs:List (Key×V)} {kds:List (PyData×PyData)},jj X.K H kvs kds→ ∀(vs:List (Key×Value)) (es:List DictEntry),KV kvs vs→Pairs (mixKind X.prog X.w) es vs→
  ∃as bs,ReadsAll s.heap (es.map (·.key)) (kds.map (·.1)) as∧ReadsAll s.heap (es.map (·.val)) (kds.map (·.2)) bs∧(FQ kds=true→sysModules∉as∧sysModules∉bs)
 |_,_,.nil,vs,es,r,p=>by
  cases r
  cases p
  exact⟨[],[],.nil,.nil,fun _=>⟨List.not_mem_nil,List.not_mem_nil⟩⟩
 |_,_,.cons h q,vs,es,r,p=>by
  cases r with
  |cons r1 r2=>
   cases p with
   |cons p1 p2 p3=>
    obtain⟨as,bs,h1,h2,hn⟩:=jj.readsI I q _ _ r2 p3
    obtain⟨cs,h3,hm⟩:=RD.readsI I h _ r1.2
    rw [←p2]at h3
    refine⟨_,_,.cons (ahn (by have z:=p1;rw [←r1.1]at z;exact z)) h1,.cons h3 h2,fun hl=> ?_⟩
    have hl':=hl
    simp only [FQ,Bool.and_eq_true]at hl'
    obtain⟨n1,n2⟩:=hn hl'.2
    refine⟨n1,fun hq=> ?_⟩
    rcases List.mem_append.mp hq with hq|hq
    ·exact hm hl'.1 hq
    ·exact n2 hq
theorem cI.readsI (I:Inv X pins σ H s): ∀{vs:List V} {ds:List PyData},cI X.K H vs ds→ ∀us,Vals vs us→ ∃as,ReadsAll s.heap us ds as∧(Et ds=true→sysModules∉as)
 |_,_,.nil,us,r=>by cases r;exact⟨_,ReadsAll.nil,fun _=>List.not_mem_nil⟩
 |_,_,.cons h q,us,r=>by
  cases r with
  |cons r1 r2=>
   obtain⟨as,q1,n1⟩:=RD.readsI I h _ r1
   obtain⟨bs,q2,n2⟩:=cI.readsI I q _ r2
   refine⟨_,ReadsAll.cons q1 q2,fun hl=> ?_⟩
   have hl':=hl
   simp only [Et,Bool.and_eq_true]at hl'
   intro hm
   rcases List.mem_append.mp hm with hm|hm
   ·exact n1 hl'.1 hm
   ·exact n2 hl'.2 hm
end
end
theorem RD.readsF {pins:List (Addr×Obj)} {σ:L2.St} {H:Hp} {s:Shared} {M:Mem} (I:Inv X pins σ H s) {v:V} {u:Value} {d:PyData} (r:RD X.K (hide H M) v d) (ru:RelV v u): ∃as,Reads s.heap u d as∧(tY d=true→sysModules∉as):=
 RD.readsI I (RD.sub (d8 H M) r) u ru
theorem RD.reads {pins:List (Addr×Obj)} {σ:L2.St} {H:Hp} {s:Shared} {M:Mem} (I:Inv X pins σ H s) {v:V} {u:Value} {d:PyData} (r:RD X.K (hide H M) v d) (ru:RelV v u): ∃as,Reads s.heap u d as:=
 let ⟨as,h,_⟩:=RD.readsF I r ru
 ⟨as,h⟩
structure Dk (x y:PyData):Prop where
 l:x.plain=true
 r:y.plain=true
 d:min x.depth y.depth≤60
def eU:PyData→PyData→Mem→KD→Prop
 | .int i,.int j,M,R=>R (.d (.bool (decide (i=j)))) M
 | .str i,.str j,M,R=>R (.d (.bool (decide (i=j)))) M
 |x,y,M,R=>Dk x y∧R (.d (.bool (PyData.eqv x y))) M
def jC:PyData→PyData→Mem→KD→Prop
 | .int i,.int j,M,R=>R (.d (.bool (!decide (i=j)))) M
 | .str i,.str j,M,R=>R (.d (.bool (!decide (i=j)))) M
 |x,y,M,R=>Dk x y∧R (.d (.bool (!PyData.eqv x y))) M
theorem Xv (i j:Int):PyData.eqv (.int i) (.int j)=decide (i=j):=by
 unfold PyData.eqv
 exact Bool.beq_eq_decide_eq _ _
theorem Xq (i j:Str):PyData.eqv (.str i) (.str j)=decide (i=j):=by
 unfold PyData.eqv
 exact Bool.beq_eq_decide_eq _ _
theorem ah9 {x y:PyData} {M:Mem} {R:KD} (h:eU x y M R):Dk x y∧R (.d (.bool (PyData.eqv x y))) M:=by
 cases x<;>cases y<;>first
  |exact h
  |(rw [Xv];exact⟨⟨rfl,rfl,Nat.zero_le _⟩,h⟩)
  |(rw [Xq];exact⟨⟨rfl,rfl,Nat.zero_le _⟩,h⟩)
theorem agy {x y:PyData} {M:Mem} {R:KD} (h:jC x y M R):Dk x y∧R (.d (.bool (!PyData.eqv x y))) M:=by
 cases x<;>cases y<;>first
  |exact h
  |(rw [Xv];exact⟨⟨rfl,rfl,Nat.zero_le _⟩,h⟩)
  |(rw [Xq];exact⟨⟨rfl,rfl,Nat.zero_le _⟩,h⟩)
theorem gj {k:Nat} (hr:Room k X.A):iW X (compareOp .Eq) (g2 eU):=pH fun pins s σ H x y v u Q dx dy M R I rv ru hm rx ry hg k=>by
 obtain⟨as,r1⟩:=rx.reads I rv
 obtain⟨bs,r2⟩:=ry.reads I ru
 have hu:=hr.units
 have hg:=ah9 hg
 refine SeqAt.eq_plain r1 r2 hg.1.l hg.1.r (by have:=hg.1.d;omega) ⟨.bl _,H,I,rfl,dJ k hm hg.2 (.bl _)⟩
theorem mO {k:Nat} (hr:Room k X.A):iW X (compareOp .NotEq) (g2 jC):=pH fun pins s σ H x y v u Q dx dy M R I rv ru hm rx ry hg k=>by
 obtain⟨as,r1⟩:=rx.reads I rv
 obtain⟨bs,r2⟩:=ry.reads I ru
 have hu:=hr.units
 have hg:=agy hg
 refine SeqAt.ne_plain r1 r2 hg.1.l hg.1.r (by have:=hg.1.d;omega) ⟨.bl _,H,I,rfl,dJ k hm hg.2 (.bl _)⟩
end
end DL
namespace DL
open PySem PySem.Spec PyProof.Rows L2
section
variable {X:Cx} {a b c e:Expr} {es:List Expr} {pos:Pos} {ta tb tc te:TD} {tas:eY}
def j8:PyData→PyData→Mem→KD→Prop
 | .int i,.int j,M,R=>R (.d (.bool (decide (i<j)))) M
 |x,y,M,R=>PySem.W.alike x y=true∧x≠ .none∧min x.depth y.depth≤60∧R (.d (.bool (PySem.W.dataLt x y))) M
theorem afW {x y:PyData} {M:Mem} {R:KD} (h:j8 x y M R):PySem.W.alike x y=true∧x≠ .none∧min x.depth y.depth≤60∧R (.d (.bool (PySem.W.dataLt x y))) M:=by
 cases x<;>cases y<;>first
  |exact h
  |(rw [PySem.W.dataLt_int];exact⟨rfl,by simp,Nat.zero_le _,h⟩)
theorem qZ {k:Nat} (hr:Room k X.A):iW X (compareOp .Lt) (g2 j8):=pH fun pins s σ H x y v u Q dx dy M R I rv ru hm rx ry hg k=>by
 obtain⟨as,r1⟩:=rx.reads I rv
 obtain⟨bs,r2⟩:=ry.reads I ru
 have hu:=hr.units
 have hg:=afW hg
 refine PySem.W.lt_data r1 r2 hg.1 hg.2.1 (by have:=hg.2.2.1;omega) ⟨.bl _,H,I,rfl,dJ k hm hg.2.2.2 (.bl _)⟩
structure vW (ys:List PyData) (x:PyData):Prop where
 l:PyData.plainAll ys=true
 r:x.plain=true
 d:min (PyData.depthAll ys) x.depth≤60
def inD (neg:Bool):PyData→PyData→Mem→KD→Prop
 |x,.tuple ys,M,R=>vW ys x∧R (.d (.bool (if neg then !(ys.any fun y=>PyData.eqv y x)else ys.any fun y=>PyData.eqv y x))) M
 |x,.list ys,M,R=>vW ys x∧R (.d (.bool (if neg then !(ys.any fun y=>PyData.eqv y x)else ys.any fun y=>PyData.eqv y x))) M
 | .str x,.str y,M,R=>R (.d (.bool (if neg then !(!(Builtin.Str.occurrences y x 0 y.length 1).isEmpty)else !(Builtin.Str.occurrences y x 0 y.length 1).isEmpty))) M
 |_,_,_,_=>False
theorem jP {k:Nat} (hr:Room k X.A):iW X (compareOp .In) (g2 (inD false)):=pH fun pins s σ H x y v u Q dx dy M R I rv ru hm rx ry hg k=>by
 have hu:=hr.units
 cases dy with
 |tuple ys=>
  obtain⟨as,r1⟩:=rx.reads I rv
  obtain⟨bs,r2⟩:=ry.reads I ru
  have hg':vW ys dx∧R (.d (.bool (ys.any fun y=>PyData.eqv y dx))) M:=by cases dx<;>exact hg
  exact SeqAt.in_tuple_data r2 r1 hg'.1.l hg'.1.r (by have:=hg'.1.d;omega) ⟨.bl _,H,I,rfl,dJ k hm hg'.2 (.bl _)⟩
 |list ys=>
  obtain⟨as,r1⟩:=rx.reads I rv
  obtain⟨bs,r2⟩:=ry.reads I ru
  have hg':vW ys dx∧R (.d (.bool (ys.any fun y=>PyData.eqv y dx))) M:=by cases dx<;>exact hg
  exact SeqAt.in_list_data r2 r1 hg'.1.l hg'.1.r (by have:=hg'.1.d;omega) ⟨.bl _,H,I,rfl,dJ k hm hg'.2 (.bl _)⟩
 |str ys=>
  cases dx with
  |str xs=>
   cases rx
   cases ry
   exact op_in_str pins s σ H _ _ v u Q I rv ru ⟨_,_,rfl,rfl,dJ k hm hg (.bl _)⟩
  |_=>exact hg.elim
 |_=>cases dx<;>exact hg.elim
theorem Br {k:Nat} (hr:Room k X.A):iW X (compareOp .NotIn) (g2 (inD true)):=pH fun pins s σ H x y v u Q dx dy M R I rv ru hm rx ry hg k=>by
 have hu:=hr.units
 cases dy with
 |tuple ys=>
  obtain⟨as,r1⟩:=rx.reads I rv
  obtain⟨bs,r2⟩:=ry.reads I ru
  have hg':vW ys dx∧R (.d (.bool (!ys.any fun y=>PyData.eqv y dx))) M:=by cases dx<;>exact hg
  exact SeqAt.notIn_tuple_data r2 r1 hg'.1.l hg'.1.r (by have:=hg'.1.d;omega) ⟨.bl _,H,I,rfl,dJ k hm hg'.2 (.bl _)⟩
 |list ys=>
  obtain⟨as,r1⟩:=rx.reads I rv
  obtain⟨bs,r2⟩:=ry.reads I ru
  have hg':vW ys dx∧R (.d (.bool (!ys.any fun y=>PyData.eqv y dx))) M:=by cases dx<;>exact hg
  exact SeqAt.notIn_list_data r2 r1 hg'.1.l hg'.1.r (by have:=hg'.1.d;omega) ⟨.bl _,H,I,rfl,dJ k hm hg'.2 (.bl _)⟩
 |str ys=>
  cases dx with
  |str xs=>
   cases rx
   cases ry
   exact op_notin_str pins s σ H _ _ v u Q I rv ru ⟨_,_,rfl,rfl,dJ k hm hg (.bl _)⟩
  |_=>exact hg.elim
 |_=>cases dx<;>exact hg.elim
def mQ:G2
 | .d x,.d .none,M,R=>R (.d (.bool (match x with| .none=>true|_=>false))) M
 |_,_,_,_=>False
def kZ:G2
 | .d x,.d .none,M,R=>R (.d (.bool (match x with| .none=>false|_=>true))) M
 |_,_,_,_=>False
theorem tM:iW X (compareOp .Is) mQ:=by
 intro pins s σ H x y v u Q I rx ry hh
 obtain⟨dx,dy,M,R,hm,r1,r2,hg,k⟩:=hh
 cases dx with
 |raw _=>exact hg.elim
 |scr _=>exact hg.elim
 |err _ _=>exact hg.elim
 |pr _ _=>exact hg.elim
 |wb _ _=>exact hg.elim
 |cls _=>exact hg.elim
 |clss _=>exact hg.elim
 |clo _ _=>exact hg.elim
 |dz _=>exact hg.elim
 |d dx=>
  cases dy with
  |raw _=>exact hg.elim
  |scr _=>exact hg.elim
  |err _ _=>exact hg.elim
  |pr _ _=>exact hg.elim
  |wb _ _=>exact hg.elim
  |cls _=>exact hg.elim
  |clss _=>exact hg.elim
  |clo _ _=>exact hg.elim
  |dz _=>exact hg.elim
  |d dy=>
   cases dy with
   |none=>
    cases r2
    cases r1<;>exact op_isN pins s σ H _ _ v u Q I rx ry ⟨rfl,dJ k hm hg (.bl _)⟩
   |_=>exact hg.elim
theorem oY:iW X (compareOp .IsNot) kZ:=by
 intro pins s σ H x y v u Q I rx ry hh
 obtain⟨dx,dy,M,R,hm,r1,r2,hg,k⟩:=hh
 cases dx with
 |raw _=>exact hg.elim
 |scr _=>exact hg.elim
 |err _ _=>exact hg.elim
 |pr _ _=>exact hg.elim
 |wb _ _=>exact hg.elim
 |cls _=>exact hg.elim
 |clss _=>exact hg.elim
 |clo _ _=>exact hg.elim
 |dz _=>exact hg.elim
 |d dx=>
  cases dy with
  |raw _=>exact hg.elim
  |scr _=>exact hg.elim
  |err _ _=>exact hg.elim
  |pr _ _=>exact hg.elim
  |wb _ _=>exact hg.elim
  |cls _=>exact hg.elim
  |clss _=>exact hg.elim
  |clo _ _=>exact hg.elim
  |dz _=>exact hg.elim
  |d dy=>
   cases dy with
   |none=>
    cases r2
    cases r1<;>exact op_notN pins s σ H _ _ v u Q I rx ry ⟨rfl,dJ k hm hg (.bl _)⟩
   |_=>exact hg.elim
def Ad (g:DV→Mem→KD→Prop) (ta:TD):TD:=fun sl M R=>ta sl M fun x M1=>g x M1 R
def Vs:DV→Mem→KD→Prop
 | .d (.int i),M,R=>R (.d (.int (-i))) M
 |_,_,_=>False
theorem agO (ha:DE X a ta):DE X (.UnaryOp .USub a pos) (Ad Vs ta):=
 PE.imp (pe_un un_neg ha) fun σ H Q ⟨sl,M,R,hs,hm,ht,k⟩=>⟨sl,M,_,hs,hm,ht,fun x M1 h1 v H1 l1 m1 r1=>by
  cases x with
  |raw _=>exact h1.elim
  |scr _=>exact h1.elim
  |err _ _=>exact h1.elim
  |pr _ _=>exact h1.elim
  |wb _ _=>exact h1.elim
  |cls _=>exact h1.elim
  |clss _=>exact h1.elim
  |clo _ _=>exact h1.elim
  |dz _=>exact h1.elim
  |d x=>
   cases r1 with
   |int i=>exact⟨i,rfl,k _ M1 h1 _ H1 l1 m1 (.int _)⟩
   |_=>exact h1.elim⟩
def aH:eY:=fun _ M R=>R [] M
def aj (ta:TD) (tr:eY):eY:=fun sl M R=>ta sl M fun x M1=>tr sl M1 fun xs M2=>R (x::xs) M2
theorem aM:DA X [] aH:=PA.imp pa_nil fun σ H Q ⟨sl,M,R,hs,hm,ht,k⟩=>k _ M ht _ H (Le.refl _ _) hm .nil
theorem aq (ha:DE X e te) (hr:DA X es tas) (hs:starEach (e::es) X.env=(false,eval e X.env)::starEach es X.env:=by rfl):DA X (e::es) (aj te tas):=
 PA.imp (pa_cons ha hr hs) fun σ H Q ⟨sl,M,R,hs,hm,ht,k⟩=>⟨sl,M,_,hs,hm,ht,fun x M1 h1 v H1 l1 m1 r1=>⟨sl,M1,_,hs.sub l1,m1,h1,fun xs M2 h2 vs H2 l2 m2 r2=>k _ M2 h2 _ H2 (l1.trans l2) m2 (.cons (r1.sub l2) r2)⟩⟩
def jQ:List DV→Option (List PyData)
 | []=>some []
 | .d x::r=>(jQ r).map (x:: ·)
 | .raw _::_=>none
 | .scr _::_=>none
 | .err _ _::_=>none
 | .pr _ _::_=>none
 | .wb _ _::_=>none
 | .cls _::_=>none
 | .clss _::_=>none
 | .clo _ _::_=>none
 | .dz _::_=>none
theorem zf: ∀{xs:List DV} {ds:List PyData},jQ xs=some ds→xs=ds.map DV.d
 | [],ds,h=>by cases h;rfl
 | .d x::r,ds,h=>by
  unfold jQ at h
  cases e:jQ r with
  |none=>rw [e]at h;cases h
  |some es=>
   rw [e]at h
   cases h
   rw [zf e]
   rfl
 | .raw _::_,ds,h=>by cases h
 | .scr _::_,ds,h=>by cases h
 | .err _ _::_,ds,h=>by cases h
 | .pr _ _::_,ds,h=>by cases h
 | .wb _ _::_,ds,h=>by cases h
 | .cls _::_,ds,h=>by cases h
 | .clss _::_,ds,h=>by cases h
 | .clo _ _::_,ds,h=>by cases h
 | .dz _::_,ds,h=>by cases h
theorem YT (ds:List PyData):jQ (ds.map DV.d)=some ds:=by
 induction ds with
 |nil=>rfl
 |cons d ds ih=>show(jQ (ds.map DV.d)).map (d:: ·)=_;rw [ih];rfl
def dTup (t:eY):TD:=fun sl M R=>t sl M fun xs M1=>fK (jQ xs) fun ds=>ds.length≤sizeLine∧R (.d (.tuple ds)) M1
def cU (t:eY):TD:=fun sl M R=>t sl M fun xs M1=>fK (jQ xs) fun ds=>ds.length≤sizeLine∧R (.d (.list ds)) M1
def u_ (t:eY):TD:=fun sl M R=>t sl M fun xs M1=>xs.length≤sizeLine∧ ∀p,M1 p=none→R (.raw (.ref p)) (bD M1 p (.lst xs))
theorem dG {x1} (h:DA X es tas):DE X (.Tuple es x1 pos) (dTup tas):=
 PE.imp (acS h) fun σ H Q ⟨sl,M,R,hs,hm,ht,k⟩=>⟨sl,M,_,hs,hm,ht,fun xs M1 h1 vs H1 l1 m1 r1=>by
  obtain⟨ds,e,g1⟩:=iK h1
  have e':=zf e
  subst e'
  have rd:=bY.data r1
  exact⟨by rw [rd.len];exact g1.1,Gu (k.le l1) m1 g1.2 rd⟩⟩
theorem dZ (h:DA X es tas):DE X (.List es pos) (cU tas):=
 PE.imp (pe_lst h) fun σ H Q ⟨sl,M,R,hs,hm,ht,k⟩=>⟨sl,M,_,hs,hm,ht,fun xs M1 h1 vs H1 l1 m1 r1=>by
  obtain⟨ds,e,g1⟩:=iK h1
  have e':=zf e
  subst e'
  have rd:=bY.data r1
  exact⟨by rw [rd.len];exact g1.1,fun p n=>uU (k.le l1) m1 n g1.2 (wU m1 n rd)⟩⟩
theorem wj (h:DA X es tas):DE X (.List es pos) (u_ tas):=
 PE.imp (pe_lst h) fun σ H Q ⟨sl,M,R,hs,hm,ht,k⟩=>⟨sl,M,_,hs,hm,ht,fun xs M1 h1 vs H1 l1 m1 r1=>
  ⟨by rw [r1.len];exact h1.1,fun p n=>k _ _ (h1.2 p (oN m1 n)) _ _ (l1.trans (oF n)) (Fp m1 n r1) rfl⟩⟩
theorem Wb {K:PySem.W.Frag} {H:Hp} {vs:List V} {ds:List PyData} {i:Int} {d:PyData} (r:cI K H vs ds) (h:atI ds i=some d): ∃v,atI vs i=some v∧RD K H v d:=by
 unfold atI at h ⊢
 rw [r.len]
 cases e:ixN ds.length i with
 |none=>rw [e]at h;cases h
 |some j=>rw [e]at h;exact r.get h
theorem agq {K:PySem.W.Frag} {H:Hp} {vs:List V} {ds:List DV} {i:Int} {d:DV} (r:bY K H vs ds) (h:atI ds i=some d): ∃v,atI vs i=some v∧RV K H v d:=by
 unfold atI at h ⊢
 rw [r.len]
 cases e:ixN ds.length i with
 |none=>rw [e]at h;cases h
 |some j=>rw [e]at h;exact r.get h
def bf:G2
 | .d (.tuple xs),.d (.int i),M,R=>fK (atI xs i) fun v=>R (.d v) M
 | .d (.list xs),.d (.int i),M,R=>fK (atI xs i) fun v=>R (.d v) M
 | .d (.str z),.d (.int i),M,R=>z.length≤sizeLine∧fK (atI z.cps.toList i) fun c=>R (.d (.str ⟨#[c]⟩)) M
 | .raw (.ref p),.d (.int i),M,R=>getL M p fun xs=>fK (atI xs i) fun v=>R v M
 |_,_,_,_=>False
theorem acR {x y:V} {H:Hp} {Q:VK} (h:Ib X.K bf x y H Q):rIx X.K x y H Q:=by
 obtain⟨dx,dy,M,R,hm,r1,r2,hg,k⟩:=h
 unfold bf at hg
 split at hg
 ·cases r2
  cases r1 with
  |tup h1 r1=>
   obtain⟨v,ev,hg⟩:=iK hg
   obtain⟨w,ew,rw'⟩:=Wb r1 ev
   exact .inr (.inl ⟨_,_,_,w,rfl,rfl,jZ (d8 _ _) h1.t,ew,dJ k hm hg rw'⟩)
 ·cases r2
  cases r1 with
  |lst h1 r1=>
   obtain⟨v,ev,hg⟩:=iK hg
   obtain⟨w,ew,rw'⟩:=Wb r1 ev
   exact .inl ⟨_,_,_,w,rfl,rfl,SqL.of (d8 _ _ _ _ h1),ew,dJ k hm hg rw'⟩
 ·cases r2
  cases r1
  obtain⟨hz,hg⟩:=hg
  obtain⟨c,ev,hg⟩:=iK hg
  exact .inr (.inr ⟨_,_,c,rfl,rfl,hz,ev,dJ k hm hg (.str _)⟩)
 ·cases r2
  rename_i M' R' p i
  have r1':x= .ref p:=r1
  subst r1'
  obtain⟨xs,e,hg⟩:=oZ hg
  obtain⟨v,ev,hg⟩:=iK hg
  obtain⟨vs,hv,rv⟩:=hm p _ e
  obtain⟨w,ew,rw'⟩:=agq rv ev
  exact .inl ⟨p,vs,_,w,rfl,rfl,SqL.of hv,ew,dJ k hm hg rw'⟩
 ·exact hg.elim
theorem cH (ha:DE X a ta) (hb:DE X b tb) (hs:PlainIx b:=by exact fun _ _=>rfl):DE X (.Subscript a b pos) (aA bf ta tb):=by
 have h:IxR X (Ib X.K bf):=fun value slice pins s σ H x y v u Q I rx ry h hs=>ix_seq value slice pins s σ H x y v u Q I rx ry (acR h) hs
 exact PE.imp (pe_ix h ha hb hs) fun _ _ _ h=>Ht h
abbrev zP:=Slots→Mem→(Option Int→Mem→Prop)→Prop
def aeS (K:PySem.W.Frag) (t:zP):TO:=fun σ H Q=> ∃sl M R,fj K (hide H M) σ sl∧cD K H M∧t sl M R∧ ∀o M',R o M'→ ∀H',Le H M H' M'→cD K H' M'→Q o H'
abbrev DO (X:Cx) (e:Option Expr) (t:zP):Prop:=PO X e (aeS X.K t)
def kJ:zP:=fun _ M R=>R none M
def eG (t:TD):zP:=fun sl M R=>t sl M fun x M1=>match x with
 | .d (.int i)=>R (some i) M1
 |_=>False
theorem PO.imp {e:Option Expr} {t u:TO} (h:PO X e t) (i: ∀σ H Q,u σ H Q→t σ H Q):PO X e u:=⟨fun pins s σ H Q I q=>h.run pins s σ H Q I (i σ H Q q)⟩
theorem m_:DO X none kJ:=PO.imp po_none fun σ H Q ⟨sl,M,R,hs,hm,ht,k⟩=>k _ M ht H (Le.refl _ _) hm
theorem gY (h:DE X e te):DO X (some e) (eG te):=PO.imp (po_some h) fun σ H Q ⟨sl,M,R,hs,hm,ht,k⟩=>⟨sl,M,_,hs,hm,ht,fun x M1 h1 v H1 l1 m1 r1=>by
  split at h1
  ·cases r1
   exact⟨_,rfl,k _ M1 h1 H1 l1 m1⟩
  ·exact h1.elim⟩
def iH {α:Type} (xs:List α) (lo hi:Option Int):List α:=(xs.drop (HT.sIx xs.length 0 lo)).take (HT.sIx xs.length xs.length hi-HT.sIx xs.length 0 lo)
theorem Tz {K:PySem.W.Frag} {H:Hp} {vs:List V} {ds:List PyData} (r:cI K H vs ds) (lo hi:Option Int):cI K H (cutV vs lo hi) (iH ds lo hi):=by
 unfold cutV iH
 rw [r.len]
 exact(r.drop _).take _
theorem ael {α:Type} {xs:List α} {lo hi:Option Int} (h:HT.sIx xs.length 0 lo=0∧HT.sIx xs.length xs.length hi=xs.length):iH xs lo hi=xs:=by
 unfold iH
 rw [h.1,h.2,List.drop_zero,Nat.sub_zero,List.take_length]
def Vo:DV→Option Int→Option Int→Mem→KD→Prop
 | .d (.tuple xs),lo,hi,M,R=>R (.d (.tuple (iH xs lo hi))) M
 | .d (.list xs),lo,hi,M,R=>R (.d (.list (iH xs lo hi))) M
 | .d (.str z),lo,hi,M,R=>z.length≤sizeLine∧R (.d (.str (cutS z lo hi))) M
 | .scr ns,lo,hi,M,R=>R (.d (.list ((iH ns lo hi).map PyData.int))) M
 |_,_,_,_,_=>False
def ahF (K:PySem.W.Frag) (g:DV→Option Int→Option Int→Mem→KD→Prop):V→Option Int→Option Int→Hp→VK→Prop:=fun x lo hi H Q=> ∃dx M R,cD K H M∧RV K (hide H M) x dx∧g dx lo hi M R∧Kt K H M R Q
theorem Xa {K:PySem.W.Frag} {H:Hp}: ∀ns:List Int,cI K H (ns.map V.int) (ns.map PyData.int)
 | []=> .nil
 |n::ns=> .cons (.int n) (Xa ns)
theorem ahv:SlR X (ahF X.K Vo):=by
 intro pins s σ H x v vl vu lo hi sl Q I rx hs pl pu h
 obtain⟨dx,M,R,hm,r1,hg,k⟩:=h
 cases dx with
 |err _ _=>exact hg.elim
 |pr _ _=>exact hg.elim
 |wb _ _=>exact hg.elim
 |cls _=>exact hg.elim
 |clss _=>exact hg.elim
 |clo _ _=>exact hg.elim
 |dz _=>exact hg.elim
 |raw _=>exact hg.elim
 |scr ns=>
  obtain⟨a,rfl,q⟩:=r1
  refine sl_list pins s σ H _ v vl vu lo hi sl Q I rx hs pl pu ⟨_,_,rfl,V6 (d8 _ _) q,fun p n=>uU k hm n hg (wU hm n ?_)⟩
  have e:cutV (ns.map V.int) lo hi=(iH ns lo hi).map V.int:=by
   unfold cutV iH
   rw [List.length_map,List.map_take,List.map_drop]
  rw [e]
  exact Xa _
 |d z=>
  cases z with
  |tuple ds=>
   cases r1 with
   |tup h1 r1=>
    refine aco pins s σ H _ v vl vu lo hi sl Q I rx hs pl pu ⟨_,_,rfl,jZ (d8 _ _) h1.t,fun w=> ?_,fun _=>Gu k hm hg (Tz r1 lo hi)⟩
    rw [r1.len]at w
    exact dJ k hm hg (by rw [ael w];exact .tup h1 r1)
  |list ds=>
   cases r1 with
   |lst h1 r1=>
    exact sl_list pins s σ H _ v vl vu lo hi sl Q I rx hs pl pu ⟨_,_,rfl,SqL.of (d8 _ _ _ _ h1),fun p n=>uU k hm n hg (wU hm n (Tz r1 lo hi))⟩
  |str z=>
   cases r1
   exact sl_str pins s σ H _ v vl vu lo hi sl Q I rx hs pl pu ⟨z,rfl,hg.1,dJ k hm hg.2 (.str _)⟩
  |_=>exact hg.elim
def fM (te:TD) (tl th:zP):TD:=fun sl M R=>te sl M fun x M1=>tl sl M1 fun l M2=>th sl M2 fun u M3=>Vo x l u M3 R
theorem jo {lo hi:Option Expr} {tl th:zP} {p2:Pos} (he:DE X e te) (hl:DO X lo tl) (hu:DO X hi th):DE X (.Subscript e (.Slice lo hi none p2) pos) (fM te tl th):=
 PE.imp (pe_slice ahv he hl hu) fun σ H Q ⟨sl,M,R,hs,hm,ht,k⟩=>⟨sl,M,_,hs,hm,ht,fun x M1 h1 v H1 l1 m1 r1=>⟨sl,M1,_,hs.sub l1,m1,h1,fun o M2 h2 H2 l2 m2=>⟨sl,M2,_,hs.sub (l1.trans l2),m2,h2,fun o' M3 h3 H3 l3 m3=>
  ⟨x,M3,R,m3,r1.sub (l2.trans l3),h3,k.le ((l1.trans l2).trans l3)⟩⟩⟩⟩
abbrev GC:=List DV→Mem→KD→Prop
def VL (K:PySem.W.Frag) (g:GC):List V→Hp→VK→Prop:=fun vs H Q=> ∃xs M R,cD K H M∧bY K (hide H M) vs xs∧g xs M R∧Kt K H M R Q
abbrev CallD (X:Cx) (f:Value) (g:GC):Prop:=CallR X f (VL X.K g)
def dCall (g:GC) (t:eY):TD:=fun sl M R=>t sl M fun xs M1=>g xs M1 R
theorem Ul {g:GC} {σ:L2.St} {H:Hp} {Q:VK} (h:iD X.K (dCall g tas) σ H Q):Xh X.K tas σ H fun vs H1=>VL X.K g vs H1 Q:=by
 obtain⟨sl,M,R,hs,hm,ht,k⟩:=h
 exact⟨sl,M,_,hs,hm,ht,fun xs M1 h1 vs H1 l1 m1 r1=>⟨xs,M1,R,m1,r1,h1,k.le l1⟩⟩
theorem gU {x:Str} {id:String} {p:Pos} {g:GC} (hc:CallD X (.builtin id) g) (hg:Gl X x) (hm:X.mg x=none) (hv:bootBuiltins x=some (.builtin id)) (ha:DA X (e::es) tas) (hn:x≠ "__name__" :=by decide) (hdb:(x==("__debug__" :Str))=false:=by decide)
  (he:starEach (e::es) X.env=(false,eval e X.env)::starEach es X.env:=by rfl) (hpl:(backTo pos (starEach es X.env)).any (·.1)=false:=by rfl):DE X (.Call (.Name x p) (e::es) [] pos) (dCall g tas):=
 PE.imp (pe_callB hc hg hm hv ha hn hdb he hpl) fun _ _ _ h=>Ul h
theorem wD {x:Str} {T:String} {p:Pos} {g:GC} (hc:CallD X (.type T) g) (hg:Gl X x) (hm:X.mg x=none) (hv:bootBuiltins x=some (.type T)) (ha:DA X (e::es) tas) (hn:x≠ "__name__" :=by decide) (hdb:(x==("__debug__" :Str))=false:=by decide)
  (he:starEach (e::es) X.env=(false,eval e X.env)::starEach es X.env:=by rfl) (hpl:(backTo pos (starEach es X.env)).any (·.1)=false:=by rfl):DE X (.Call (.Name x p) (e::es) [] pos) (dCall g tas):=
 PE.imp (pe_callTy hc hg hm hv ha hn hdb he hpl) fun _ _ _ h=>Ul h
def g1 (f:PyData→Mem→KD→Prop):GC
 | [.d x],M,R=>f x M R
 |_,_,_=>False
theorem Jh {f:Value} {g:PyData→Mem→KD→Prop}
  (h: ∀pins s σ H x u Q dx M R,Inv X pins σ H s→RelV x u→cD X.K H M→RD X.K (hide H M) x dx→g dx M R→Kt X.K H M R Q→wpAny (model X.prog X.w) X.A (call f [u]) (EP X pins σ Q) X.xe s):CallD X f (g1 g):=by
 intro pins s σ H vs us Q I r hh
 obtain⟨xs,M,R,hm,rv,hg,k⟩:=hh
 match xs,hg with
 | [.d x],hg=>
  cases rv with
  |cons r1 r2=>
   cases r2
   cases r with
   |cons q1 q2=>
    cases q2
    exact h pins s σ H _ _ Q x M R I q1 hm r1 hg k
def adC:PyData→Mem→KD→Prop
 | .str z,M,R=>z.length≤sizeLine∧R (.d (.int z.length)) M
 | .list xs,M,R=>R (.d (.int xs.length)) M
 | .tuple xs,M,R=>R (.d (.int xs.length)) M
 |_,_,_=>False
def iw:GC
 | [.d x],M,R=>adC x M R
 | [.raw (.ref p)],M,R=>getL M p fun xs=>R (.d (.int xs.length)) M
 |_,_,_=>False
theorem jJ:CallD X (.builtin "len") iw:=by
 intro pins s σ H vs us Q I r hh
 obtain⟨xs,M,R,hm,rv,hg,k⟩:=hh
 match xs,hg with
 | [.d x],hg=>
  cases rv with
  |cons r1 r2=>
   cases r2
   refine call_len pins s σ H _ us Q I r ?_
   cases r1 with
   |str z=>exact⟨_,z.length,rfl,⟨hg.1,rfl⟩,dJ k hm hg.2 (.int _)⟩
   |lst h1 r1=>exact⟨_,_,rfl,.inl ⟨_,SqL.of (d8 _ _ _ _ h1),rfl⟩,by rw [r1.len];exact dJ k hm hg (.int _)⟩
   |tup h1 r1=>exact⟨_,_,rfl,.inr ⟨_,jZ (d8 _ _) h1.t,rfl⟩,by rw [r1.len];exact dJ k hm hg (.int _)⟩
   |_=>exact hg.elim
 | [.raw (.ref p)],hg=>
  cases rv with
  |cons r1 r2=>
   cases r2
   cases r1
   obtain⟨xs,e,hg'⟩:=oZ hg
   obtain⟨ws,hv,rw'⟩:=hm p _ e
   exact call_len pins s σ H _ us Q I r ⟨_,_,rfl,.inl ⟨_,SqL.of hv,rfl⟩,by rw [bY.len rw'];exact dJ k hm hg' (.int _)⟩
def Jj:PyData→Mem→KD→Prop
 | .int i,M,R=>R (.d (.int (if i<0 then-i else i))) M
 |_,_,_=>False
theorem Ky {x:V} {u:Value} (h:RelV x u):Vals [x] [u]:= .cons h .nil
theorem Y5:CallD X (.builtin "abs") (g1 Jj):=Jh fun pins s σ H x u Q dx M R I ru hm rx hg k=>by
 cases rx with
 |int i=>exact call_abs pins s σ H _ _ Q I (Ky ru) ⟨i,rfl,dJ k hm hg (.int _)⟩
 |_=>exact hg.elim
def yN:List PyData→Option (List Int)
 | []=>some []
 | .int i::r=>(yN r).map (i:: ·)
 |_::_=>none
theorem Wy: ∀{ds:List PyData} {ns:List Int},yN ds=some ns→ds=ns.map PyData.int
 | [],ns,h=>by cases h;rfl
 | .int i::r,ns,h=>by
  unfold yN at h
  cases e:yN r with
  |none=>rw [e]at h;cases h
  |some es=>rw [e]at h;cases h;rw [Wy e];rfl
 | .none::_,ns,h=>by cases h
 | .bool _::_,ns,h=>by cases h
 | .str _::_,ns,h=>by cases h
 | .list _::_,ns,h=>by cases h
 | .tuple _::_,ns,h=>by cases h
 | .dict _::_,ns,h=>by cases h
theorem Wv {K:PySem.W.Frag} {H:Hp}: ∀{vs:List V} {ns:List Int},cI K H vs (ns.map PyData.int)→vs=ns.map V.int
 | [],[],_=>rfl
 |v::vs,n::ns,r=>by
  cases r with
  |cons h t=>
   cases h
   rw [Wv t]
   rfl
def Je:GC
 | [.d (.int i),.d (.int j)],M,R=>R (.d (.int (if j>i then j else i))) M
 | [.d (.list xs)],M,R=>fK (yN xs) fun ns=>0<ns.length∧ ∀m,m∈ns→(∀y,y∈ns→y≤m)→R (.d (.int m)) M
 |_,_,_=>False
theorem agX (hc:X.calm=true):CallD X (.builtin "max") Je:=by
 intro pins s σ H vs us Q I r hh
 obtain⟨xs,M,R,hm,rv,hg,k⟩:=hh
 match xs,hg with
 | [.d (.int i),.d (.int j)],hg=>
  cases rv with
  |cons r1 r2=>
   cases r2 with
   |cons r2 r3=>
    cases r3
    cases r1
    cases r2
    exact call_max2 hc pins s σ H _ us Q I r ⟨i,j,rfl,dJ k hm hg (.int _)⟩
 | [.d (.list xs)],hg=>
  cases rv with
  |cons r1 r2=>
   cases r2
   cases r1 with
   |lst h1 r1=>
    obtain⟨ns,e,hg'⟩:=iK hg
    have e':=Wy e
    subst e'
    have ev:=Wv r1
    subst ev
    exact cr_max hc pins s σ H _ us Q I r ⟨_,ns,rfl,SqL.of (d8 _ _ _ _ h1),hg'.1,fun m m1 m2=>dJ k hm (hg'.2 m m1 m2) (.int _)⟩
def uN:PyData→Mem→KD→Prop
 | .int i,M,R=>R (.d (.int i)) M
 | .bool k,M,R=>R (.d (.int (if k then 1 else 0))) M
 |_,_,_=>False
theorem Dc:CallD X (.type "int") (g1 uN):=Jh fun pins s σ H x u Q dx M R I ru hm rx hg k=>by
 cases rx with
 |int i=>exact call_int1 pins s σ H _ _ Q I (Ky ru) (.inl ⟨i,rfl,dJ k hm hg (.int _)⟩)
 |bl i=>exact call_int1 pins s σ H _ _ Q I (Ky ru) (.inr ⟨i,rfl,dJ k hm hg (.int _)⟩)
 |_=>exact hg.elim
mutual
theorem Vi: ∀d:PyData,d.plain=true→d.hasDict=false
 | .none,_=>by simp only [PyData.hasDict]
 | .bool _,_=>by simp only [PyData.hasDict]
 | .int _,_=>by simp only [PyData.hasDict]
 | .str _,_=>by simp only [PyData.hasDict]
 | .list xs,h=>by
  simp only [PyData.hasDict]
  exact Ka xs (by simpa only [PyData.plain]using h)
 | .tuple xs,h=>by
  simp only [PyData.hasDict]
  exact Ka xs (by simpa only [PyData.plain]using h)
 | .dict _,h=>by simp [PyData.plain]at h
theorem Ka: ∀ds:List PyData,PyData.plainAll ds=true→PyData.hasDictAll ds=false
 | [],_=>by simp only [PyData.hasDictAll]
 |x::xs,h=>by
  have h':x.plain=true∧PyData.plainAll xs=true:=by simpa only [PyData.plainAll,Bool.and_eq_true]using h
  simp only [PyData.hasDictAll,Vi x h'.1,Ka xs h'.2,Bool.or_self]
end
def KC (x:PyData) (M:Mem) (R:KD):Prop:=x.showable=true∧x.depth≤200∧x.shown.length≤sizeLine∧(x.hasDict=true→tY x=true)∧R (.d (.str x.shown)) M
theorem ah8 {k:Nat} (hr:Room k X.A) (hgd:X.A.guards=some []):CallD X (.builtin "repr") (g1 KC):=
 Jh fun pins s σ H x u Q dx M R I ru hm rx hg k=>by
 obtain⟨h1,h2,h3,h4,hg⟩:=hg
 have hu:=hr.un
 cases rx with
 |non=>
  cases ru
  exact P.repr_of_none ⟨.str "None",H,I.tok _,⟨_,rfl⟩,dJ k hm hg (.str _)⟩
 |bl b=>
  cases ru
  exact P.repr_of_bool ⟨.str _,H,I.tok _,⟨_,rfl⟩,dJ k hm hg (.str _)⟩
 |int i=>
  obtain⟨t,rfl⟩:=ru
  exact P.repr_of_int (by simpa [PyData.showable]using h1) ⟨.str _,H,I.tok _,⟨_,rfl⟩,dJ k hm hg (.str _)⟩
 |str z=>
  obtain⟨t,rfl⟩:=ru
  exact P.repr_of_str (hsz:=h3) ⟨.str _,H,I.tok _,⟨_,rfl⟩,dJ k hm hg (.str _)⟩
 |lst q1 q2=>
  obtain⟨as,rd,hn⟩:=RD.readsF I (.lst q1 q2) ru
  cases ru
  exact repr_of_reads' rd h1 (fun q=>hn (h4 q)) hgd (by omega) (fun _ _ e=>e) (fun h' u tk hk=>⟨.str _,H,I.kept hk,⟨_,rfl⟩,dJ k hm hg (.str _)⟩) h3
 |tup q1 q2=>
  obtain⟨as,rd,hn⟩:=RD.readsF I (.tup q1 q2) ru
  cases ru
  exact repr_of_reads' rd h1 (fun q=>hn (h4 q)) hgd (by omega) (fun _ _ e=>e) (fun h' u tk hk=>⟨.str _,H,I.kept hk,⟨_,rfl⟩,dJ k hm hg (.str _)⟩) h3
 |dct q1 q2=>
  obtain⟨as,rd,hn⟩:=RD.readsF I (.dct q1 q2) ru
  cases ru
  exact repr_of_reads' rd h1 (fun q=>hn (h4 q)) hgd (by omega) (fun _ _ e=>e) (fun h' u tk hk=>⟨.str _,H,I.kept hk,⟨_,rfl⟩,dJ k hm hg (.str _)⟩) h3
end
end DL
namespace DL
open PySem PySem.Spec PyProof.Rows L2
section
variable {X:Cx} {a b c e:Expr} {es:List Expr} {pos:Pos} {ta tb tc te:TD} {tas:eY} {tA:fZ} {st:Stmt} {sts:List Stmt} {t u:bK}
def cV:bK:=fun D sl M=>D.nx sl M
@[irreducible] def aQ (t u:bK):bK:=fun D sl M=>t {D with nx:=u D} sl M
theorem sq {t u:bK} {D:fD} {sl:Slots} {M:Mem} (h:t {D with nx:=u D} sl M):aQ t u D sl M:=by
 unfold aQ
 exact h
theorem afj {t u:bK} {D:fD} {sl:Slots} {M:Mem} (h:aQ t u D sl M):t {D with nx:=u D} sl M:=by
 unfold aQ at h
 exact h
def gW (te:TD):bK:=fun D sl M=>te sl M fun _ M1=>D.nx sl M1
def bO (te:TD):bK:=fun D sl M=>te sl M D.rt
def bZ (t:fZ) (a b:bK):bK:=fun D sl M=>t sl M fun k M1=>if k=true then a D sl M1 else b D sl M1
def aZ (i:Nat) (te:TD):bK:=fun D sl M=>te sl M fun x M1=>D.nx (sl.set i (some x)) M1
theorem cW:mK X [] cV:=PSs.imp pss_nil fun D σ H ⟨sl,M,E,hs,hm,ht,kn,kr,kb,kc⟩=>kn sl M ht σ H (Le.refl _ _) hm hs
theorem aR (h1:DS X st t) (h2:mK X sts u):mK X (st::sts) (aQ t u):=
 PSs.imp (pss_cons h1 h2) fun D σ H ⟨sl,M,E,hs,hm,ht,kn,kr,kb,kc⟩=>⟨sl,M,{E with nx:=u E},hs,hm,afj ht,fun sl' M' h σ' H' l m r=>⟨sl',M',E,r,m,h,kn.le l,kr.le l,kb.le l,kc.le l⟩,kr,kb,kc⟩
theorem aW (h1:DS X st t):mK X [st] t:=pss_one h1
theorem ju (he:DE X e te) (hs:swapsWith e none pos.line X.env=pure false:=by rfl):DS X (.Expr e pos) (gW te):=
 PS.imp (ps_expr he hs) fun D σ H ⟨sl,M,E,hs,hm,ht,kn,kr,kb,kc⟩=>⟨sl,M,_,hs,hm,ht,fun x M1 h1 v H1 l1 m1 r1=>kn sl M1 h1 σ H1 l1 m1 (hs.sub l1)⟩
theorem b_ (he:DE X e te):DS X (.Return (some e) pos) (bO te):=
 PS.imp (ps_ret he) fun D σ H ⟨sl,M,E,hs,hm,ht,kn,kr,kb,kc⟩=>⟨sl,M,_,hs,hm,ht,kr⟩
theorem cP {x y:List Stmt} (hc:DT X c tA) (ha:mK X x t) (hb:mK X y u):DS X (.If c x y pos) (bZ tA t u):=
 PS.imp (ps_if hc ha hb) fun D σ H ⟨sl,M,E,hs,hm,ht,kn,kr,kb,kc⟩=>⟨sl,M,_,hs,hm,ht,fun k M1 h1 H1 l1 m1=>by
  cases k with
  |true=>exact⟨sl,M1,E,hs.sub l1,m1,h1,kn.le l1,kr.le l1,kb.le l1,kc.le l1⟩
  |false=>exact⟨sl,M1,E,hs.sub l1,m1,h1,kn.le l1,kr.le l1,kb.le l1,kc.le l1⟩⟩
theorem bx {i:Nat} {x:Str} {pos':Pos} (hN:X.N.Nodup) (hi:X.N[i]? =some x) (hx:Loc X.env.scope x) (he:DE X e te) (hs:swapsWith e (some (.Name x pos')) pos.line X.env=pure false:=by rfl)
  (hf:X.fn x=true∨X.env.scope.names.lookup x=some .local:=by first|exact .inl rfl|exact .inr rfl|assumption):DS X (.Assign [.Name x pos'] e pos) (aZ i te):=
 PS.imp (ps_set (i:=i) hN hi hx he hs hf) fun D σ H ⟨sl,M,E,hs,hm,ht,kn,kr,kb,kc⟩=>⟨sl,M,_,hs,hm,ht,fun x M1 h1 v H1 l1 m1 r1=>kn _ M1 h1 _ H1 l1 m1 ((hs.sub l1).set i r1)⟩
def uo (i:Nat) (t:bK):bK:=fun D sl M=>match sl[i]? with
 |some (some (.raw (.ref p)))=>getL M p fun xs=>fK (jQ xs) fun ds=>t D (sl.set i (some (.d (.list ds)))) (cZ M p)
 |_=>False
theorem BX (i:Nat) (h:mK X sts t):mK X sts (uo i t):=PSs.imp h fun D σ H ⟨sl,M,E,hs,hm,ht,kn,kr,kb,kc⟩=>by
 unfold uo at ht
 split at ht
 ·rename_i p e
  obtain⟨xs,ex,ht⟩:=oZ ht
  obtain⟨ds,ed,ht2⟩:=iK ht
  have ed':=zf ed
  subst ed'
  obtain⟨v,ev,rv⟩:=hs.2 i _ e
  cases rv
  obtain⟨vs,hv,rvs⟩:=hm p _ ex
  have l:Le H M H (cZ M p):=v7 (K:=X.K)
  have hp:cZ M p p=none:=by unfold cZ;rw [if_pos rfl]
  have rd:RD X.K (hide H (cZ M p)) (.ref p) (.list ds):= .lst (oE hv hp) (cI.sub l (bY.data rvs))
  have hs':fj X.K (hide H (cZ M p)) σ (sl.set i (some (.d (.list ds)))):=by
   have h1:=(hs.sub l).set i (v:= .ref p) (x:= .d (.list ds)) rd
   have e2:σ.set i (some (.ref p))=σ:=by
    apply List.ext_getElem?
    intro j
    by_cases hj:i=j
    ·subst hj
     rw [List.getElem?_set_self ((List.getElem?_eq_some_iff.mp ev).1),ev]
    ·rw [List.getElem?_set_ne hj]
   rw [e2]at h1
   exact h1
  exact⟨_,_,E,hs',FJ hm,ht2,kn.le l,kr.le l,kb.le l,kc.le l⟩
 ·exact ht.elim
abbrev jh:=DV→Slots→Mem→(Slots→Mem→Prop)→Prop
abbrev sX:=List DV→Slots→Mem→(Slots→Mem→Prop)→Prop
def WL (K:PySem.W.Frag) (H:Hp) (M:Mem) (ss:List Nat) (σ:L2.St) (R:Slots→Mem→Prop) (Q:L2.St→Hp→Prop):Prop:=
 ∀sl' M',R sl' M'→ ∀σ' H',Le H M H' M'→cD K H' M'→fj K (hide H' M') σ' sl'→σ'.length=σ.length→(∀j,j∉ss→σ'[j]? =σ[j]?)→Q σ' H'
def G5 (K:PySem.W.Frag) (ss:List Nat) (g:jh):TG:=fun v σ H Q=> ∃x sl M R,fj K (hide H M) σ sl∧cD K H M∧RV K (hide H M) v x∧g x sl M R∧WL K H M ss σ R Q
def aeP (K:PySem.W.Frag) (ss:List Nat) (g:sX):TGs:=fun vs σ H Q=> ∃xs sl M R,fj K (hide H M) σ sl∧cD K H M∧bY K (hide H M) vs xs∧g xs sl M R∧WL K H M ss σ R Q
abbrev DG (X:Cx) (tg:Expr) (ss:List Nat) (g:jh):Prop:=PG X tg (G5 X.K ss g)
abbrev Ih (X:Cx) (tgs:List Expr) (ss:List Nat) (g:sX):Prop:=PGs X tgs (aeP X.K ss g)
theorem PG.imp {tg:Expr} {t u:TG} (h:PG X tg t) (i: ∀v σ H Q,u v σ H Q→t v σ H Q):PG X tg u:=⟨fun pins s σ H v w Q I r q=>h.run pins s σ H v w Q I r (i v σ H Q q)⟩
theorem PGs.imp {tg:List Expr} {t u:TGs} (h:PGs X tg t) (i: ∀v σ H Q,u v σ H Q→t v σ H Q):PGs X tg u:=⟨fun pins s σ H v w Q I r q=>h.run pins s σ H v w Q I r (i v σ H Q q)⟩
def iT (i:Nat):jh:=fun x sl M R=>R (sl.set i (some x)) M
theorem jf {i:Nat} {x:Str} (hN:X.N.Nodup) (hi:X.N[i]? =some x) (hx:Loc X.env.scope x) (hf:X.fn x=true∨X.env.scope.names.lookup x=some .local:=by first|exact .inl rfl|exact .inr rfl|assumption):DG X (.Name x pos) [i] (iT i):=
 PG.imp (pg_name (i:=i) hN hi hx hf) fun v σ H Q ⟨x,sl,M,R,hs,hm,rv,hg,k⟩=>k _ M hg _ H (Le.refl _ _) hm (hs.set i rv) (by simp) (fun j hj=>by
  rw [List.getElem?_set_ne]
  intro z
  exact hj (by simp [z]))
def wH:sX:=fun xs sl M R=>match xs with
 | []=>R sl M
 |_::_=>False
def nA (g:jh) (t:sX):sX:=fun xs sl M R=>match xs with
 |x::r=>g x sl M fun sl' M'=>t r sl' M' R
 | []=>False
theorem Bl:Ih X [] [] wH:=PGs.imp pgs_nil fun v σ H Q ⟨xs,sl,M,R,hs,hm,rv,hg,k⟩=>by
 cases rv with
 |nil=>exact⟨rfl,k _ M hg _ H (Le.refl _ _) hm hs rfl fun _ _=>rfl⟩
 |cons _ _=>exact hg.elim
theorem pK {e:Expr} {es:List Expr} {s1 s2:List Nat} {g:jh} {t:sX} (h1:DG X e s1 g) (h2:Ih X es s2 t)
  (hs:(assignEach (e::es) X.env).map (·.2)=assign e X.env::(assignEach es X.env).map (·.2):=by rfl):Ih X (e::es) (s1++s2) (nA g t):=
 PGs.imp (pgs_cons h1 h2 hs) fun v σ H Q ⟨xs,sl,M,R,hs,hm,rv,hg,k⟩=>by
  cases rv with
  |nil=>exact hg.elim
  |cons r1 r2=>
   refine⟨_,_,rfl,_,sl,M,_,hs,hm,r1,hg,fun sl' M' h σ' H' l m r len fr=>⟨_,sl',M',R,r,m,bY.sub l r2,h,fun sl2 M2 h2 σ2 H2 l2 m2 r2 len2 fr2=>k sl2 M2 h2 σ2 H2 (l.trans l2) m2 r2 (len2.trans len) fun j hj=> ?_⟩⟩
   rw [fr2 j (fun z=>hj (List.mem_append_right _ z)),fr j (fun z=>hj (List.mem_append_left _ z))]
def w6 (n:Nat) (t:sX):jh:=fun x sl M R=>match x with
 | .d (.tuple ds)=>ds.length=n∧t (ds.map DV.d) sl M R
 | .pr x y=>2=n∧t [x,y] sl M R
 |_=>False
theorem Ds {es:List Expr} {k:Nat} {ss:List Nat} {t:sX} {n:Nat} (hc:X.calm=true) (h:Ih X es ss t)
  (hn:(assignEach es X.env).length=n:=by rfl) (hst:(assignEach es X.env).findIdx? (·.1)=none:=by rfl):DG X (.Tuple es k pos) ss (w6 n t):=
 PG.imp (pg_tup hc h hn hst) fun v σ H Q ⟨x,sl,M,R,hs,hm,rv,hg,k⟩=>by
  unfold w6 at hg
  split at hg
  ·cases rv with
   |tup h1 r1=>exact⟨_,_,rfl,jZ (d8 _ _) h1.t,by rw [r1.len];exact hg.1,_,sl,M,R,hs,hm,cI.vals r1,hg.2,k⟩
  ·obtain⟨a,v1,v2,rfl,q,r1,r2⟩:=rv
   exact⟨_,_,rfl,jZ (d8 _ _) q,hg.1,_,sl,M,R,hs,hm,.cons r1 (.cons r2 .nil),hg.2,k⟩
  ·exact hg.elim
def zU (te:TD) (g:jh):bK:=fun D sl M=>te sl M fun x M1=>g x sl M1 D.nx
theorem Fv {tg e:Expr} {ss:List Nat} {g:jh} (he:DE X e te) (hg:DG X tg ss g) (hs:swapsWithSole [tg] e pos.line X.env=pure false:=by rfl) (hw:swappedStores [tg] e X.env=pure none:=by rfl)
  (h1:(assignEach [tg] X.env).map (·.2)= [assign tg X.env]:=by rfl):DS X (.Assign [tg] e pos) (zU te g):=
 PS.imp (ps_asg he hg hs hw h1) fun D σ H ⟨sl,M,E,hs,hm,ht,kn,kr,kb,kc⟩=>⟨sl,M,_,hs,hm,ht,fun x M1 h1 v H1 l1 m1 r1=>⟨x,sl,M1,_,hs.sub l1,m1,r1,h1,fun sl' M' h σ' H' l m r _ _=>kn _ _ h _ _ (l1.trans l) m r⟩⟩
def dPar (i j:Nat) (ta:eY):bK:=fun D sl M=>ta sl M fun xs M1=>match xs with
 | [x,y]=>D.nx ((sl.set i (some x)).set j (some y)) M1
 |_=>False
theorem acs {i j:Nat} {x y:Str} {a b:Expr} {ta:eY} {px py pt:Pos} {kt k2 pt2} (hc:X.calm=true) (hN:X.N.Nodup) (hi:X.N[i]? =some x) (hj:X.N[j]? =some y) (hij:i≠j)
  (hx:X.env.scope.names.lookup x=some .local) (hy:X.env.scope.names.lookup y=some .local) (ha:DA X [a,b] ta)
  (hw:swappedStores [.Tuple [.Name x px,.Name y py] kt pt] (.Tuple [a,b] k2 pt2) X.env=pure (some [x,y]))
  (hs:swapsWithSole [.Tuple [.Name x px,.Name y py] kt pt] (.Tuple [a,b] k2 pt2) pos.line X.env=pure false:=by rfl):
  DS X (.Assign [.Tuple [.Name x px,.Name y py] kt pt] (.Tuple [a,b] k2 pt2) pos) (dPar i j ta):=
 PS.imp (ps_par hc hN hi hj hij hx hy ha hw hs) fun D σ H ⟨sl,M,E,hs,hm,ht,kn,kr,kb,kc⟩=>⟨sl,M,_,hs,hm,ht,fun xs M1 h1 vs H1 l1 m1 r1=>by
  match xs,h1 with
  | [x,y],h1=>
   cases r1 with
   |cons r1 r2=>
    cases r2 with
    |cons r2 r3=>
     cases r3
     exact⟨_,_,rfl,kn _ M1 h1 _ H1 l1 m1 (((hs.sub l1).set i r1).set j r2)⟩⟩
def sH (i:Nat) (te:TD) (f:Int→Int→Int):bK:=fun D sl M=>match sl[i]? with
 |some (some (.d (.int n)))=>te sl M fun y M1=>match y with
  | .d (.int m)=>D.nx (sl.set i (some (.d (.int (f n m))))) M1
  |_=>False
 |_=>False
theorem Lg {i:Nat} {x:Str} {op:Operator} {f:Int→Int→Int} {pos':Pos} (hN:X.N.Nodup) (hi:X.N[i]? =some x) (hx:Loc X.env.scope x) (he:DE X e te) (ho:PIp X op (ipI f))
  (hf:X.fn x=true∨X.env.scope.names.lookup x=some .local:=by first|exact .inl rfl|exact .inr rfl|assumption):DS X (.AugAssign (.Name x pos') op e pos) (sH i te f):=
 PS.imp (ps_aug (i:=i) hN hi hx he ho hf) fun D σ H ⟨sl,M,E,hs,hm,ht,kn,kr,kb,kc⟩=>by
  unfold sH at ht
  split at ht
  ·rename_i n en
   obtain⟨v,ev,rv⟩:=hs.2 i _ en
   cases rv
   refine⟨_,ev,sl,M,_,hs,hm,ht,fun y M1 h1 w H1 l1 m1 r1=> ?_⟩
   split at h1
   ·cases r1
    exact⟨_,_,rfl,rfl,kn _ M1 h1 _ H1 l1 m1 ((hs.sub l1).set i (x:= .d _) (.int _))⟩
   ·exact h1.elim
  ·exact ht.elim
def jt (te to ti:TD):bK:=fun D sl M=>te sl M fun x M1=>to sl M1 fun o M2=>ti sl M2 fun i M3=>match o,i with
 | .raw (.ref p),.d (.int k)=>getL M3 p fun xs=>fK (ixN xs.length k) fun j=>D.nx sl (bD M3 p (.lst (xs.set j x)))
 |_,_=>False
theorem pD {o i:Expr} {to ti:TD} {pos':Pos} (he:DE X e te) (ho:DE X o to) (hi:DE X i ti)
  (ha: ∀v,assign (.Subscript o i pos') X.env v=(do
   let ov←holding [v] (eval o X.env)
   let iv←holding [v,ov] (eval i X.env)
   standAt pos'
   holding [v,ov,iv] (setItem ov iv v)
   release [v,ov,iv] []):=by intro _;rfl) (hs:swapsWithSole [.Subscript o i pos'] e pos.line X.env=pure false:=by rfl) (hw:swappedStores [.Subscript o i pos'] e X.env=pure none:=by rfl)
  (h1:(assignEach [.Subscript o i pos'] X.env).map (·.2)= [assign (.Subscript o i pos') X.env]:=by rfl):DS X (.Assign [.Subscript o i pos'] e pos) (jt te to ti):=
 PS.imp (ps_asg he (pg_sub ho hi set_list ha) hs hw h1) fun D σ H ⟨sl,M,E,hs,hm,ht,kn,kr,kb,kc⟩=>⟨sl,M,_,hs,hm,ht,fun x M1 h1 v H1 l1 m1 r1=>⟨sl,M1,_,hs.sub l1,m1,h1,fun o M2 h2 ov H2 l2 m2 r2=>⟨sl,M2,_,hs.sub (l1.trans l2),m2,h2,fun i M3 h3 iv H3 l3 m3 r3=>by
  have l12:=l1.trans l2
  have l:=l12.trans l3
  split at h3
  ·rename_i p k
   obtain⟨xs,ex,h3⟩:=oZ h3
   obtain⟨j,ej,h3⟩:=iK h3
   have r2':ov= .ref p:=r2
   subst r2'
   cases r3
   obtain⟨vs,hv,rvs⟩:=m3 p _ ex
   exact⟨p,vs,k,j,rfl,rfl,hv,by rw [bY.len rvs];exact ej,kn _ _ h3 _ _ (l.trans (k_ ex)) (Hi m3 ex (bY.set (r1.sub (l2.trans l3)) j rvs)) (hs.sub (l.trans (k_ ex)))⟩
  ·exact h3.elim⟩⟩⟩
def mZ (to te:TD):bK:=fun D sl M=>to sl M fun o M1=>match o with
 | .raw (.ref p)=>getL M1 p fun _=>te sl M1 fun x M2=>getL M2 p fun xs=>xs.length<sizeLine∧D.nx sl (bD M2 p (.lst (xs++ [x])))
 |_=>False
theorem xX {o:Expr} {to:TD} {apos cpos:Pos} (ho:DE X o to) (he:DE X e te)
  (h: ∀{t1:TE} {t2:TA},PE X o t1→PA X [e] t2→PS X (.Expr (.Call (.Attribute o "append" apos) [e] [] cpos) pos) (tDrop (tBM X.K "list" rAppend t1 t2)):=by
   intro t1 t2 q1 q2;exact ps_expr (pe_bm PySem.F.plainAttrs_list PySem.F.slot_list_append PySem.F.type_list_append mt_append q1 q2)) (hs:starEach [e] X.env=(false,eval e X.env)::starEach [] X.env:=by rfl):
  DS X (.Expr (.Call (.Attribute o "append" apos) [e] [] cpos) pos) (mZ to te):=
 PS.imp (h ho (pa_cons he pa_nil hs)) fun D σ H ⟨sl,M,E,hs,hm,ht,kn,kr,kb,kc⟩=>⟨sl,M,_,hs,hm,ht,fun o M1 h1 ov H1 l1 m1 r1=>by
  split at h1
  ·rename_i p
   obtain⟨ys,ey,h1⟩:=oZ h1
   have r1':ov= .ref p:=r1
   subst r1'
   obtain⟨ws,hw,rws⟩:=m1 p _ ey
   refine⟨.inl ⟨rfl,ws,SqL.of hw⟩,sl,M1,_,hs.sub l1,m1,h1,fun x M2 h2 xv H2 l2 m2 r2=> ?_⟩
   obtain⟨xs,ex,h2⟩:=oZ h2
   obtain⟨vs,hv,rvs⟩:=m2 p _ ex
   have l:=l1.trans l2
   exact⟨p,vs,xv,rfl,rfl,hv,by rw [bY.len rvs];exact h2.1,kn _ _ h2.2 _ _ (l.trans (k_ ex)) (Hi m2 ex (bY.append rvs (.cons r2 .nil))) (hs.sub (l.trans (k_ ex)))⟩
  ·exact h1.elim⟩
abbrev lG:=Slots→Mem→(List DV→Mem→Prop)→Prop
def vQ (K:PySem.W.Frag) (H:Hp) (M:Mem) (J:It) (items:List DV):Prop:= ∀H1 M1,Le H M H1 M1→cD K H1 M1→
 (∀i,i<items.length→J.go i H1∧ ∀v H2,J.yld i H1 v H2→Le H1 M1 H2 M1∧cD K H2 M1∧ ∃x,items[i]? =some x∧RV K (hide H2 M1) v x)∧J.stop items.length H1
def Hw (K:PySem.W.Frag) (wi:lG):TI:=fun σ H R=> ∃sl M RR,fj K (hide H M) σ sl∧cD K H M∧wi sl M RR∧ ∀items M',RR items M'→ ∀J H',Le H M H' M'→cD K H' M'→vQ K H' M' J items→R J H'
abbrev DI (X:Cx) (tg iter:Expr) (wi:lG):Prop:=PI X tg iter (Hw X.K wi)
theorem PI.imp {tg iter:Expr} {t u:TI} (h:PI X tg iter t) (i: ∀σ H Q,u σ H Q→t σ H Q):PI X tg iter u:=⟨fun pins s σ H Q I q=>h.run pins s σ H Q I (i σ H Q q)⟩
def o_ (te:TD):lG:=fun sl M R=>te sl M fun x M1=>match x with
 | .d (.list xs)=>R (xs.map DV.d) M1
 | .d (.tuple xs)=>R (xs.map DV.d) M1
 | .d (.str z)=>R (z.cps.toList.map fun c=>DV.d (.str ⟨#[c]⟩)) M1
 |_=>False
def aeU (K:PySem.W.Frag) (te:TE):TI:=fun σ H R=>te σ H fun x H1=>(∃a,x= .ref a∧(∃xs,SqL K H1 a xs)∧R (Itl K a) H1)∨(∃a,x= .ref a∧(∃xs,SqT K H1 a xs)∧R (Itt K a) H1)∨ ∃z,x= .str z∧R (Its z) H1
theorem ahc {tg l:Expr} {tl:TE} (hl:PE X l tl):PI X tg l (aeU X.K tl):=by
 refine⟨fun pins s σ H R I h=>thn (hl.run pins s σ H _ I h) fun v s1 ⟨x,H1,I1,r1,q1⟩=> ?_⟩
 have new: ∀b∈ [s1.heap.objs.size],FpOk X pins H1 b:=fun b hb=>by
  obtain rfl:b=s1.heap.objs.size:=by simpa using hb
  exact I1.fpOk (Nat.le_refl _) (I1.hok.fresh (Nat.le_refl _))
 rcases q1 with⟨a,ea,⟨xs,hq⟩,q⟩|⟨a,ea,⟨xs,hq⟩,q⟩|⟨z,ez,q⟩
 ·subst ea
  cases r1
  obtain⟨its,rv,p,hz⟩:=I1.list hq
  exact wpAny_pyIter_list p.isList ⟨_,_,_,_,H1,rfl,I1.kept (t':=s1.toks) fun b o e=>Heap.get?_push_of_some _ e,turn_list a _,⟨_,Heap.get?_push_size _ rfl,rfl,rfl⟩,new,q⟩
 ·subst ea
  cases r1
  obtain⟨its,rv,p,hz⟩:=I1.tuple hq
  exact wpAny_pyIter_tuple (show s1.heap.IsTuple a its.toArray from p) ⟨_,_,_,_,H1,rfl,I1.kept (t':=s1.toks) fun b o e=>Heap.get?_push_of_some _ e,turn_tuple a _,⟨_,Heap.get?_push_size _ rfl,rfl,rfl⟩,new,q⟩
 ·subst ez
  obtain⟨t,rfl⟩:=r1
  cases ha:z.cps.all (· <128)
  ·exact wpAny_pyIter_wide ha (pi_one (tk:=s1.toks) I1 _ (turn_str _ z t "str_iterator" (.inr rfl)) ⟨_,Heap.get?_push_size _ rfl,rfl,rfl⟩ q)
  ·exact wpAny_pyIter_ascii ha (pi_one (tk:=s1.toks) I1 _ (turn_str _ z t "str_ascii_iterator" (.inl rfl)) ⟨_,Heap.get?_push_size _ rfl,rfl,rfl⟩ q)
theorem acw {K:PySem.W.Frag} {H:Hp} {M:Mem} {a:Addr} {xs:List V} {ds:List PyData} (h:hide H M a=some (.lst xs)) (r:cI K (hide H M) xs ds):vQ K H M (Itl K a) (ds.map DV.d):=fun H1 M1 l m=>by
 have h1:SqL K H1 a xs:=SqL.of (d8 _ _ _ _ (l _ _ h))
 have len:=r.len
 refine⟨fun i hi=> ?_,⟨xs,h1,by rw [List.length_map];omega⟩⟩
 rw [List.length_map]at hi
 refine⟨⟨xs,xs[i],h1,by rw [List.getElem?_eq_getElem (by omega)]⟩,fun v H2 y=> ?_⟩
 obtain⟨rfl,y⟩:=y
 obtain⟨d,ed,rd⟩:=r.getV (y xs h1)
 exact⟨Le.refl _ _,m,.d d,by rw [List.getElem?_map,ed];rfl,RD.sub l rd⟩
theorem acd {K:PySem.W.Frag} {H:Hp} {M:Mem} {a:Addr} {xs:List V} {ds:List PyData} (h:SqT K (hide H M) a xs) (r:cI K (hide H M) xs ds):vQ K H M (Itt K a) (ds.map DV.d):=fun H1 M1 l m=>by
 have h1:SqT K H1 a xs:=jZ (d8 _ _) (jZ l h)
 have len:=r.len
 refine⟨fun i hi=> ?_,⟨xs,h1,by rw [List.length_map];omega⟩⟩
 rw [List.length_map]at hi
 refine⟨⟨xs,xs[i],h1,by rw [List.getElem?_eq_getElem (by omega)]⟩,fun v H2 y=> ?_⟩
 obtain⟨rfl,y⟩:=y
 obtain⟨d,ed,rd⟩:=r.getV (y xs h1)
 exact⟨Le.refl _ _,m,.d d,by rw [List.getElem?_map,ed];rfl,RD.sub l rd⟩
theorem ahB {K:PySem.W.Frag} {H:Hp} {M:Mem} {z:Str}:vQ K H M (Its z) (z.cps.toList.map fun c=>DV.d (.str ⟨#[c]⟩)):=fun H1 M1 l m=>by
 refine⟨fun i hi=> ?_,?_⟩
 ·rw [List.length_map,Array.length_toList]at hi
  refine⟨hi,fun v H2 y=> ?_⟩
  obtain⟨rfl,c,ec,rfl⟩:=y
  refine⟨Le.refl _ _,m,.d (.str ⟨#[c]⟩),?_,.str _⟩
  rw [List.getElem?_map,Array.getElem?_toList,ec]
  rfl
 ·show z.cps.size≤_
  rw [List.length_map,Array.length_toList]
  exact Nat.le_refl _
theorem v8 {tg l:Expr} (hl:DE X l te):DI X tg l (o_ te):=
 PI.imp (ahc hl) fun σ H R ⟨sl,M,RR,hs,hm,ht,k⟩=>⟨sl,M,_,hs,hm,ht,fun x M1 h1 v H1 l1 m1 r1=>by
  split at h1
  ·cases r1 with
   |lst q1 q2=>exact .inl ⟨_,rfl,⟨_,SqL.of (d8 _ _ _ _ q1)⟩,k _ M1 h1 _ H1 l1 m1 (acw q1 q2)⟩
  ·cases r1 with
   |tup q1 q2=>exact .inr (.inl ⟨_,rfl,⟨_,jZ (d8 _ _) q1.t⟩,k _ M1 h1 _ H1 l1 m1 (acd q1.t q2)⟩)
  ·cases r1
   exact .inr (.inr ⟨_,rfl,k _ M1 h1 _ H1 l1 m1 ahB⟩)
  ·exact h1.elim⟩
def qO (lo:Int) (n:Nat):List DV:=(List.range n).map fun(i:Nat)=>DV.d (.int (lo+(i:Int)))
theorem agc {K:PySem.W.Frag} {H:Hp} {M:Mem} {lo:Int} {n:Nat}:vQ K H M (Itr lo n) (qO lo n):=fun H1 M1 l m=>by
 have hl:(qO lo n).length=n:=by unfold qO;rw [List.length_map,List.length_range]
 refine⟨fun i hi=> ?_,?_⟩
 ·rw [hl]at hi
  refine⟨hi,fun v H2 y=> ?_⟩
  obtain⟨rfl,rfl⟩:=y
  refine⟨Le.refl _ _,m,.d (.int (lo+(i:Int))),?_,.int _⟩
  unfold qO
  rw [List.getElem?_map,List.getElem?_range hi]
  rfl
 ·rw [hl]
  exact Nat.le_refl n
def wV (ta:eY):lG:=fun sl M R=>ta sl M fun xs M1=>match xs with
 | [.d (.int j)]=>(-(2^62)≤j∧j<2^62)∧R (qO 0 j.toNat) M1
 |_=>False
theorem Gm {tg a:Expr} {p pos:Pos} (hg:Gl X "range") (hm:X.mg "range" =none) (ha:DA X [a] tas) (hs:starEach [a] X.env= [(false,eval a X.env)]:=by rfl):DI X tg (.Call (.Name "range" p) [a] [] pos) (wV tas):=
 PI.imp (pi_range1 hg hm ha hs) fun σ H R ⟨sl,M,RR,hs,hm,ht,k⟩=>⟨sl,M,_,hs,hm,ht,fun x M1 h1 v H1 l1 m1 r1=>by
  split at h1
  ·cases r1 with
   |cons r1 r2=>
    cases r2
    cases r1
    exact⟨_,rfl,h1.1.1,h1.1.2,k _ M1 h1.2 _ H1 l1 m1 agc⟩
  ·exact h1.elim⟩
def o9 (wi:lG) (g:jh) (tb:bK):bK:=fun D sl M=>wi sl M fun items M1=> ∃W:Nat→Slots→Mem→Prop,W 0 sl M1∧
 (∀i x sl' M',items[i]? =some x→W i sl' M'→g x sl' M' fun sl2 M2=>tb {D with nx:=W (i+1),ct:=W (i+1),bk:=D.nx} sl2 M2)∧ ∀sl' M',W items.length sl' M'→D.nx sl' M'
theorem vO {tg iter:Expr} {body:List Stmt} {wi:lG} {ss:List Nat} {g:jh} {tb:bK} (hp:PassesOwn (model X.prog X.w) X.A X.env X.xe) (hc:X.calm=true) (hi:DI X tg iter wi) (hg:DG X tg ss g) (hb:mK X body tb)
  (hs: ∀x,foldedSetIterable iter X.env x=pure x:=by intro _;rfl):DS X (.For tg iter body [] pos) (o9 wi g tb):=
 PS.imp (ps_for hp hc hi hg hb hs) fun D σ H ⟨sl,M,E,hs,hm,ht,kn,kr,kb,kc⟩=>⟨sl,M,_,hs,hm,ht,fun items M1 h1 J H1 l1 m1 it=>by
  obtain⟨W,w0,step,fin⟩:=h1
  refine⟨fun i m σ' H'=>m=items.length-i∧i≤items.length∧ ∃sl' M',fj X.K (hide H' M') σ' sl'∧cD X.K H' M'∧Le H1 M1 H' M'∧W i sl' M',⟨_,rfl,Nat.zero_le _,sl,M1,hs.sub l1,m1,Le.refl _ _,w0⟩,?_⟩
  rintro i m σ' H' ⟨rfl,hi,sl',M',rs,rm,le,w⟩
  obtain⟨go,stop⟩:=it H' M' le rm
  by_cases hlt:i<items.length
  ·obtain⟨g1,y1⟩:=go i hlt
   refine .inr ⟨g1,fun σ2 H2=> ∃sl2 M2,fj X.K (hide H2 M2) σ2 sl2∧cD X.K H2 M2∧Le H1 M1 H2 M2∧W (i+1) sl2 M2,fun σ2 H2 h=>⟨_,by omega,rfl,hlt,h⟩,fun v H2 y=> ?_⟩
   obtain⟨ly,my,x,ex,rx⟩:=y1 v H2 y
   have hstep:=step i x sl' M' ex w
   refine⟨x,sl',M',_,rs.sub ly,my,rx,hstep,fun sl2 M2 h2 σ2 H3 l3 m3 r3 _ _=> ?_⟩
   have lt:=le.trans (ly.trans l3)
   exact⟨sl2,M2,_,r3,m3,h2,fun sl4 M4 h4 σ4 H4 l4 m4 r4=>⟨sl4,M4,r4,m4,lt.trans l4,h4⟩,kr.le (l1.trans lt),fun sl4 M4 h4 σ4 H4 l4 m4 r4=>kn sl4 M4 h4 σ4 H4 ((l1.trans lt).trans l4) m4 r4,fun sl4 M4 h4 σ4 H4 l4 m4 r4=>⟨sl4,M4,r4,m4,lt.trans l4,h4⟩⟩
  ·have e:i=items.length:=by omega
   subst e
   exact .inl ⟨stop,kn sl' M' (fin sl' M' w) σ' H' (l1.trans le) rm rs⟩⟩
def pC (c:fZ) (tb:bK):bK:=fun D sl M=> ∃W:Nat→Slots→Mem→Prop,(∃m,W m sl M)∧ ∀m sl M,W m sl M→
 c sl M fun k M1=>if k=true then tb {D with nx:=fun sl' M'=> ∃m',m'<m∧W m' sl' M',ct:=fun sl' M'=> ∃m',m'<m∧W m' sl' M',bk:=D.nx} sl M1 else D.nx sl M1
theorem sW {body:List Stmt} {tb:bK} (hp:PassesOwn (model X.prog X.w) X.A X.env X.xe) (hc:DT X c tA) (hb:mK X body tb):DS X (.While c body [] pos) (pC tA tb):=
 PS.imp (ps_while hp hc hb) fun D σ H ⟨sl,M,E,hs,hm,⟨W,⟨m0,w0⟩,step⟩,kn,kr,kb,kc⟩=>by
  refine⟨fun m σ' H'=> ∃sl' M',fj X.K (hide H' M') σ' sl'∧cD X.K H' M'∧Le H M H' M'∧W m sl' M',⟨m0,sl,M,hs,hm,Le.refl _ _,w0⟩,?_⟩
  rintro m σ' H' ⟨sl',M',rs,rm,le,w⟩
  refine⟨sl',M',_,rs,rm,step m sl' M' w,fun k M1 h1 H1 l1 m1=> ?_⟩
  have lt:=le.trans l1
  cases k with
  |true=>
   exact⟨_,fun σ2 H2 h=>h,sl',M1,_,rs.sub l1,m1,h1,fun sl4 M4 ⟨m',hm',h4⟩ σ4 H4 l4 m4 r4=>⟨m',hm',sl4,M4,r4,m4,lt.trans l4,h4⟩,kr.le lt,fun sl4 M4 h4 σ4 H4 l4 m4 r4=>kn sl4 M4 h4 σ4 H4 (lt.trans l4) m4 r4,fun sl4 M4 ⟨m',hm',h4⟩ σ4 H4 l4 m4 r4=>⟨m',hm',sl4,M4,r4,m4,lt.trans l4,h4⟩⟩
  |false=>exact kn sl' M1 h1 σ' H1 lt m1 (rs.sub l1)
end
end DL
namespace DL
open PySem PySem.Spec PyProof.Rows L2
def oH (sl:Slots):List Nat→Slots
 | []=>sl
 |v::vs=>(oH sl vs).set v none
theorem fj.none {K:PySem.W.Frag} {H:Hp} {σ:L2.St} {sl:Slots} (h:fj K H σ sl) (i:Nat):fj K H (σ.set i none) (sl.set i none):=by
 refine⟨by simpa using h.1,fun j y e=> ?_⟩
 by_cases hj:i=j
 ·subst hj
  have hi:i<sl.length:=by
   have:=(List.getElem?_eq_some_iff.mp e).1
   simpa using this
  rw [List.getElem?_set_self hi]at e
  cases e
 ·rw [List.getElem?_set_ne hj]at e
  obtain⟨w,e1,r1⟩:=h.2 j y e
  exact⟨w,by rw [List.getElem?_set_ne hj];exact e1,r1⟩
theorem fj.wipe {K:PySem.W.Frag} {H:Hp} {σ:L2.St} {sl:Slots} (h:fj K H σ sl): ∀vs:List Nat,fj K H (L2.wipe σ vs) (oH sl vs)
 | []=>h
 |v::vs=>(h.wipe vs).none v
theorem afs {σ σ':L2.St} (hl:σ'.length=σ.length): ∀{vs:List Nat},(∀(j:Nat),j∉vs→σ'[j]? =σ[j]?)→ ∀(j:Nat),(L2.wipe σ' vs)[j]? =(L2.wipe σ vs)[j]?
 | [],h,j=>h j (by simp)
 |v::vs,h,j=>by
  unfold L2.wipe
  by_cases hj:v=j
  ·subst hj
   by_cases hv:v<σ.length
   ·rw [List.getElem?_set_self (by rw [wipe_length];omega),List.getElem?_set_self (by rw [wipe_length];omega)]
   ·rw [List.getElem?_eq_none (by rw [List.length_set,wipe_length];omega),List.getElem?_eq_none (by rw [List.length_set,wipe_length];omega)]
  ·rw [List.getElem?_set_ne hj,List.getElem?_set_ne hj]
   by_cases hm:j∈vs
   ·
    have key: ∀(τ:L2.St) (ws:List Nat),j∈ws→(L2.wipe τ ws)[j]? =if j<τ.length then some none else none:=by
     intro τ ws
     induction ws with
     |nil=>intro z;cases z
     |cons w ws ih=>
      intro z
      unfold L2.wipe
      by_cases hw:w=j
      ·subst hw
       by_cases hx:w<τ.length
       ·rw [List.getElem?_set_self (by rw [wipe_length];omega),if_pos hx]
       ·rw [List.getElem?_eq_none (by rw [List.length_set,wipe_length];omega),if_neg hx]
      ·rw [List.getElem?_set_ne hw]
       exact ih (by rcases List.mem_cons.mp z with q|q;exact absurd q.symm hw;exact q)
    rw [key σ' vs hm,key σ vs hm,hl]
   ·have keep: ∀(τ:L2.St) (ws:List Nat),j∉ws→(L2.wipe τ ws)[j]? =τ[j]? :=by
     intro τ ws
     induction ws with
     |nil=>intro _;rfl
     |cons w ws ih=>
      intro z
      unfold L2.wipe
      rw [List.getElem?_set_ne (fun q=>z (by simp [q]))]
      exact ih fun q=>z (List.mem_cons_of_mem _ q)
    rw [keep σ' vs hm,keep σ vs hm]
    exact h j (fun z=>by rcases List.mem_cons.mp z with q|q;exact hj q.symm;exact hm q)
theorem afE (σ:L2.St) (vs:List Nat):L2.wipe (L2.wipe σ vs) vs=L2.wipe σ vs:=by
 apply List.ext_getElem?
 intro j
 by_cases hm:j∈vs
 ·have key: ∀(τ:L2.St) (ws:List Nat),j∈ws→(L2.wipe τ ws)[j]? =if j<τ.length then some none else none:=by
   intro τ ws
   induction ws with
   |nil=>intro z;cases z
   |cons w ws ih=>
    intro z
    unfold L2.wipe
    by_cases hw:w=j
    ·subst hw
     by_cases hx:w<τ.length
     ·rw [List.getElem?_set_self (by rw [wipe_length];omega),if_pos hx]
     ·rw [List.getElem?_eq_none (by rw [List.length_set,wipe_length];omega),if_neg hx]
    ·rw [List.getElem?_set_ne hw]
     exact ih (by rcases List.mem_cons.mp z with q|q;exact absurd q.symm hw;exact q)
  rw [key _ vs hm,key _ vs hm,wipe_length]
 ·have keep: ∀(τ:L2.St) (ws:List Nat),j∉ws→(L2.wipe τ ws)[j]? =τ[j]? :=by
   intro τ ws
   induction ws with
   |nil=>intro _;rfl
   |cons w ws ih=>
    intro z
    unfold L2.wipe
    rw [List.getElem?_set_ne (fun q=>z (by simp [q]))]
    exact ih fun q=>z (List.mem_cons_of_mem _ q)
  rw [keep _ vs hm]
theorem Ke {σ σ':L2.St} {vs ss:List Nat} (hl:σ'.length=(L2.wipe σ vs).length) (h: ∀(j:Nat),j∉ss→σ'[j]? =(L2.wipe σ vs)[j]?) (sub: ∀j∈ss,j∈vs):L2.wipe σ' vs=L2.wipe σ vs:=by
 have e:L2.wipe σ' vs=L2.wipe (L2.wipe σ vs) vs:=List.ext_getElem? fun j=>afs hl (fun j hj=>h j fun z=>hj (sub j z)) j
 rw [e,afE]
section
variable {X:Cx} {a b c e:Expr} {es:List Expr} {pos:Pos} {ta tb tc te:TD} {tas:eY} {tA:fZ}
def qX:fZ:=fun _ M R=>R true M
abbrev Ge (X:Cx) (ifs:List Expr) (t:fZ):Prop:=PTs X ifs (liftT X.K t)
theorem Bc:Ge X [] qX:=⟨fun pins s σ H Q I ⟨sl,M,R,hs,hm,ht,k⟩=>(pts_nil (X:=X)).run pins s σ H Q I (k _ M ht H (Le.refl _ _) hm)⟩
def xY (wi:lG) (g:jh) (tt:fZ) (te:TD) (vs:List Nat):TD:=fun sl M R=>wi sl M fun items M1=> ∀p,M1 p=none→ ∃P:Nat→Mem→Prop,P 0 (bD M1 p (.lst []))∧
 (∀i x M,items[i]? =some x→P i M→g x (oH sl vs) M fun sl2 M2=>tt sl2 M2 fun k M3=>if k=true then te sl2 M3 fun y M4=>getL M4 p (fun acc=>acc.length<sizeLine∧P (i+1) (bD M4 p (.lst (acc++ [y]))))else P (i+1) M3)∧
 ∀M,P items.length M→getL M p fun xs=>fK (jQ xs) fun ds=>R (.d (.list ds)) (cZ M p)
theorem afX {wi:lG} {ss vs:List Nat} {g:jh} {tt:fZ} {σ:L2.St} {H:Hp} {Q:VK} (sub: ∀j∈ss,j∈vs) (h:iD X.K (xY wi g tt te vs) σ H Q):
  tLc (Hw X.K wi) (G5 X.K ss g) (liftT X.K tt) (iD X.K te) vs σ H Q:=by
 obtain⟨sl,M,R,hs,hm,ht,k⟩:=h
 refine⟨sl,M,_,hs,hm,ht,fun items M1 h1 J H1 l1 m1 it D nD=> ?_⟩
 obtain⟨P,p0,step,fin⟩:=h1 D (oN m1 nD)
 refine⟨fun i m H'=>m=items.length-i∧i≤items.length∧ ∃M',cD X.K H' M'∧Le H1 M1 H' M'∧P i M',⟨_,rfl,Nat.zero_le _,_,Fp m1 nD .nil,oF nD,p0⟩,?_⟩
 rintro i m H' ⟨rfl,hi,M',rm,le,w⟩
 obtain⟨go,stop⟩:=it H' M' le rm
 by_cases hlt:i<items.length
 ·obtain⟨g1,y1⟩:=go i hlt
  refine .inr ⟨g1,fun H2=> ∃M2,cD X.K H2 M2∧Le H1 M1 H2 M2∧P (i+1) M2,fun H2 h=>⟨_,by omega,rfl,hlt,h⟩,fun v H2 y=> ?_⟩
  obtain⟨ly,my,x,ex,rx⟩:=y1 v H2 y
  have hst:=step i x M' ex w
  have rs:fj X.K (hide H2 M') (L2.wipe σ vs) (oH sl vs):=(hs.sub (l1.trans (le.trans ly))).wipe vs
  refine⟨x,_,M',_,rs,my,rx,hst,fun sl2 M2 h2 σ2 H3 l3 m3 r3 len fr=>⟨Ke len fr sub,?_⟩⟩
  refine⟨sl2,M2,_,r3,m3,h2,fun kk M3 h3 H4 l4 m4=> ?_⟩
  have lt:=le.trans (ly.trans (l3.trans l4))
  cases kk with
  |false=>exact⟨M3,m4,lt,h3⟩
  |true=>
   refine⟨sl2,M3,_,r3.sub l4,m4,h3,fun yv M5 h5 u H5 l5 m5 r5=> ?_⟩
   obtain⟨acc,ea,h5⟩:=oZ h5
   obtain⟨av,ha,ra⟩:=m5 D _ ea
   exact⟨av,ha,by rw [bY.len ra];exact h5.1,_,Hi m5 ea (bY.append ra (.cons r5 .nil)),(lt.trans l5).trans (k_ ea),h5.2⟩
 ·have e:i=items.length:=by omega
  subst e
  obtain⟨xs,ex,hf⟩:=oZ (fin M' w)
  obtain⟨ds,ed,hf2⟩:=iK hf
  have ed':=zf ed
  subst ed'
  obtain⟨vs',hv,rv⟩:=rm D _ ex
  have ld:Le H' M' H' (cZ M' D):=v7 (K:=X.K)
  have hp:cZ M' D D=none:=by unfold cZ;rw [if_pos rfl]
  exact .inl ⟨stop,k _ _ hf2 _ _ (l1.trans (le.trans ld)) (FJ rm) (.lst (oE hv hp) (cI.sub ld (bY.data rv)))⟩
def LC (wi:lG) (g:jh) (tt:fZ) (te:TD) (vs:List Nat):TD:=fun sl M R=>wi sl M fun items M1=> ∀p,M1 p=none→ ∃P:Nat→Mem→Prop,P 0 (bD M1 p (.lst []))∧
 (∀i x M,items[i]? =some x→P i M→g x (oH sl vs) M fun sl2 M2=>tt sl2 M2 fun k M3=>if k=true then te sl2 M3 fun y M4=>getL M4 p (fun acc=>acc.length<sizeLine∧P (i+1) (bD M4 p (.lst (acc++ [y]))))else P (i+1) M3)∧
 ∀M,P items.length M→R (.raw (.ref p)) M
theorem adU {wi:lG} {ss vs:List Nat} {g:jh} {tt:fZ} {σ:L2.St} {H:Hp} {Q:VK} (sub: ∀j∈ss,j∈vs) (h:iD X.K (LC wi g tt te vs) σ H Q):
  tLc (Hw X.K wi) (G5 X.K ss g) (liftT X.K tt) (iD X.K te) vs σ H Q:=by
 obtain⟨sl,M,R,hs,hm,ht,k⟩:=h
 refine⟨sl,M,_,hs,hm,ht,fun items M1 h1 J H1 l1 m1 it D nD=> ?_⟩
 obtain⟨P,p0,step,fin⟩:=h1 D (oN m1 nD)
 refine⟨fun i m H'=>m=items.length-i∧i≤items.length∧ ∃M',cD X.K H' M'∧Le H1 M1 H' M'∧P i M',⟨_,rfl,Nat.zero_le _,_,Fp m1 nD .nil,oF nD,p0⟩,?_⟩
 rintro i m H' ⟨rfl,hi,M',rm,le,w⟩
 obtain⟨go,stop⟩:=it H' M' le rm
 by_cases hlt:i<items.length
 ·obtain⟨g1,y1⟩:=go i hlt
  refine .inr ⟨g1,fun H2=> ∃M2,cD X.K H2 M2∧Le H1 M1 H2 M2∧P (i+1) M2,fun H2 h=>⟨_,by omega,rfl,hlt,h⟩,fun v H2 y=> ?_⟩
  obtain⟨ly,my,x,ex,rx⟩:=y1 v H2 y
  have hst:=step i x M' ex w
  have rs:fj X.K (hide H2 M') (L2.wipe σ vs) (oH sl vs):=(hs.sub (l1.trans (le.trans ly))).wipe vs
  refine⟨x,_,M',_,rs,my,rx,hst,fun sl2 M2 h2 σ2 H3 l3 m3 r3 len fr=>⟨Ke len fr sub,?_⟩⟩
  refine⟨sl2,M2,_,r3,m3,h2,fun kk M3 h3 H4 l4 m4=> ?_⟩
  have lt:=le.trans (ly.trans (l3.trans l4))
  cases kk with
  |false=>exact⟨M3,m4,lt,h3⟩
  |true=>
   refine⟨sl2,M3,_,r3.sub l4,m4,h3,fun yv M5 h5 u H5 l5 m5 r5=> ?_⟩
   obtain⟨acc,ea,h5⟩:=oZ h5
   obtain⟨av,ha,ra⟩:=m5 D _ ea
   exact⟨av,ha,by rw [bY.len ra];exact h5.1,_,Hi m5 ea (bY.append ra (.cons r5 .nil)),(lt.trans l5).trans (k_ ea),h5.2⟩
 ·have e:i=items.length:=by omega
  subst e
  exact .inl ⟨stop,k _ _ (fin M' w) _ _ (l1.trans le) rm rfl⟩
theorem Kr {i:Nat} {y:Str} {py spos:Pos} {elt tg iter:Expr} {ifs:List Expr} {scope:Scope} {own:List (Str×Nat)} {wi:lG} {ss:List Nat} {g:jh} {tt:fZ} (hc:X.calm=true) (hN:X.N.Nodup) (hy:X.N[i]? =some y) (hyl:X.env.scope.names.lookup y=some .local)
  (hsw:swapsWith (.ListComp elt [⟨tg,iter,ifs,0⟩] scope pos) (some (.Name y py)) spos.line X.env=pure true) (hi:DI X tg iter wi) (ok:BlkOk X.N X.env.scope scope own)
  (hg: ∀(s:Shared) (H:Hp) (C:Addr) (cl:List (Str×Addr)) (fp:List Addr),DG (X.blk s H scope (compEnvC scope cl C X.env) fp) tg ss g)
  (ht: ∀(s:Shared) (H:Hp) (C:Addr) (cl:List (Str×Addr)) (fp:List Addr),Ge (X.blk s H scope (compEnvC scope cl C X.env) fp) ifs tt)
  (he: ∀(s:Shared) (H:Hp) (C:Addr) (cl:List (Str×Addr)) (fp:List Addr),DE (X.blk s H scope (compEnvC scope cl C X.env) fp) elt te)
  (sub: ∀j∈ss,j∈own.map (·.2)) (hs: ∀x,foldedSetIterable iter X.env x=pure x:=by intro _;rfl):
  DS X (.Assign [.Name y py] (.ListComp elt [⟨tg,iter,ifs,0⟩] scope pos) spos) (aZ i (xY wi g tt te (own.map (·.2)))):=
 PS.imp (ps_setLc hc hN hy hyl hsw hi ok hg ht he hs) fun D σ H ⟨sl,M,E,hs,hm,ht,kn,kr,kb,kc⟩=>afX sub ⟨sl,M,_,hs,hm,ht,fun x M1 h1 v H1 l1 m1 r1=>kn _ M1 h1 _ H1 l1 m1 ((hs.sub l1).set i r1)⟩
theorem aic {i:Nat} {y:Str} {py spos:Pos} {elt tg iter:Expr} {ifs:List Expr} {scope:Scope} {own:List (Str×Nat)} {wi:lG} {ss:List Nat} {g:jh} {tt:fZ} (hc:X.calm=true) (hN:X.N.Nodup) (hy:X.N[i]? =some y) (hyl:X.env.scope.names.lookup y=some .local)
  (hsw:swapsWith (.ListComp elt [⟨tg,iter,ifs,0⟩] scope pos) (some (.Name y py)) spos.line X.env=pure true) (hi:DI X tg iter wi) (ok:BlkOk X.N X.env.scope scope own)
  (hg: ∀(s:Shared) (H:Hp) (C:Addr) (cl:List (Str×Addr)) (fp:List Addr),DG (X.blk s H scope (compEnvC scope cl C X.env) fp) tg ss g)
  (ht: ∀(s:Shared) (H:Hp) (C:Addr) (cl:List (Str×Addr)) (fp:List Addr),Ge (X.blk s H scope (compEnvC scope cl C X.env) fp) ifs tt)
  (he: ∀(s:Shared) (H:Hp) (C:Addr) (cl:List (Str×Addr)) (fp:List Addr),DE (X.blk s H scope (compEnvC scope cl C X.env) fp) elt te)
  (sub: ∀j∈ss,j∈own.map (·.2)) (hs: ∀x,foldedSetIterable iter X.env x=pure x:=by intro _;rfl):
  DS X (.Assign [.Name y py] (.ListComp elt [⟨tg,iter,ifs,0⟩] scope pos) spos) (aZ i (LC wi g tt te (own.map (·.2)))):=
 PS.imp (ps_setLc hc hN hy hyl hsw hi ok hg ht he hs) fun D σ H ⟨sl,M,E,hs,hm,ht,kn,kr,kb,kc⟩=>adU sub ⟨sl,M,_,hs,hm,ht,fun x M1 h1 v H1 l1 m1 r1=>kn _ M1 h1 _ H1 l1 m1 ((hs.sub l1).set i r1)⟩
end
structure bM (P:Program) (w:World) (K:PySem.W.Frag) (mg:Str→Option Value) (base:Heap) (CX:CXT) (k:Nat) (f:Addr) (fd:FuncData) (ps:List Str) (sp:Sp):Prop where
 len: ∀vs H Q E,sp vs H Q E→vs.length=ps.length
 run: ∀(A:Around) (outer:List Env) (s:Shared) (H:Hp) (args:Args) (us:List Value) (vs:List V) (Q:VK) (E:XK),A.guards=some []→Room k A→Env0 P w K mg base A outer s H→
  BindsTo s fd args (ps.zip us)→Vals vs us→sp vs H Q E→codeAny (model P w) A (.call (.ref f) args) (CR CX outer P w H s Q E) s
section
variable {P:Program} {w:World} {K:PySem.W.Frag} {mg:Str→Option Value} {base:Heap} {CX:CXT} {k:Nat} {f:Addr} {fd:FuncData} {ps:List Str} {sp:Sp}
theorem bM.mono {j:Nat} (F:bM P w K mg base CX j f fd ps sp) (h:j≤k):bM P w K mg base CX k f fd ps sp:=⟨F.len,fun A outer s H args us vs Q E hg hr=>F.run A outer s H args us vs Q E hg (hr.mono h)⟩
theorem Ey {name qual:Str} {params:Arguments} {body:List Stmt} {scope:Scope} {dV kV doc pm cdv ct oc:Value} {an od:Option Addr} {osl:Array (Option Value)} {N:List Str}
  (lk:K.lookup f=some ⟨oc,od,.func (PySem.W.fnOf name qual params body scope dV kV doc pm an cdv ct),osl⟩) (hcd:PySem.W.codeIn K cdv qual=true) (S:FnScope N ps scope) (len: ∀vs H Q E,sp vs H Q E→vs.length=ps.length)
  (hbody: ∀(A:Around) (outer:List Env) (s:Shared) (H:Hp) (vs:List V) (Q:VK) (E:XK),A.guards=some []→Room k (A.deeper (envOfC qual scope s.heap.objs.size f cdv))→sp vs H Q E→
   ∃t,PSs (cxOf CX P w K mg base N qual scope f cdv A outer s H E) body t∧t {nx:=fun _ H'=>Q .non H',rt:=Q} (start N vs) H):
  bM P w K mg base CX (k+1) f (PySem.W.fnOf name qual params body scope dV kV doc pm an cdv ct) ps sp:=by
 refine⟨len,fun A outer s H args us vs Q E hgd hr e0 hb r hsp=> ?_⟩
 have kept: ∀b o,base.get? b=some o→s.heap.get? b=some o:=fun b o e=>(e0.bs b o e).1
 have Ba:K.In s.heap:=e0.mod.kin.keeps kept
 have kinds: ∀y∈ps.zip us,scope.names.lookup y.1=some .local∨(scope.names.lookup y.1=some .cell∧((cellsFrom (s.heap.objs.size+1) scope.names []).lookup y.1).isSome=true):=by
  rintro⟨n,v⟩ hy
  exact(S.par n (List.of_mem_zip hy).1).imp id fun q=>⟨q,PySem.W.cellsFrom_some _ _ _ (.inl q)⟩
 refine codeAny_call_function hr.depth (Ba _ _ lk) rfl S.co S.gen rfl (PySem.W.codeRec_of Ba hcd) (hb _ _ _ _ (wpAny_newFunctionEnv_cells S.kind kinds ?_))
 intro env he s1 x
 subst he
 refine⟨(e0.mod.nolimit.keeps kept).keeps x.toInCall.keep,codeAny_func ?_⟩
 obtain⟨t,ht,hq⟩:=hbody A outer s H vs Q E hgd (hr.deeper _) hsp
 refine wpAny_mono (ht.run [] s1 (start N vs) H _ (inv_start S hr.hd e0 (len _ _ _ _ hsp) r x) hq) ?_ fun e s' hs=>hs
 intro fl s' hs
 cases fl with
 |ret u=>
  obtain⟨v,σ',H',J,rv,q⟩:=hs
  exact⟨v,H',J.os,J.bare,J.base,J.hok,rv,q⟩
 |next=>
  obtain⟨σ',H',J,q⟩:=hs
  exact⟨.non,H',J.os,J.bare,J.base,J.hok,rfl,q⟩
 |brk=>
  obtain⟨_,_,_,q⟩:=hs
  exact q.elim
 |cont=>
  obtain⟨_,_,_,q⟩:=hs
  exact q.elim
end
section
variable {X:Cx} {CX:CXT} {k:Nat} {f:Addr} {fd:FuncData} {ps:List Str} {sp:Sp} {dvs:List V} {ds:List Value} {E:XK} {x:Str} {p pos:Pos} {e:Expr} {es:List Expr} {t:TA}
theorem UL {pins:List (Addr×Obj)} {σ:L2.St} {H:Hp} {s:Shared} {Q:VK} {us:List Value} {vs:List V} (hgd:X.A.guards=some []) (F:bM X.prog X.w X.K X.mg X.base CX k f fd ps sp) (hr:Room k X.A) (hb:Binds X.K fd ps ds) (hd:Vals dvs ds) (hx:Passes CX X E)
  (I:Inv X pins σ H s) (r:Vals vs us) (h:sp (vs++dvs) H Q E):wpAny (model X.prog X.w) X.A (call (.ref f) us) (EP X pins σ Q) X.xe s:=by
 have r2:Vals (vs++dvs) (us++ds):=r.append hd
 have hl:(us++ds).length=ps.length:=r2.length.symm.trans (F.len _ _ _ _ h)
 refine wpAny_call (codeAny_mono (F.run X.A X.stack s H ⟨us,[]⟩ _ _ Q E hgd hr I.env0 (hb s us I.kIn hl) r2 h) ?_)
 intro r s' hq
 match r,hq with
 | .error e,hq=>exact hx pins σ H s e s' I hq
 | .ok (.ret u),hq=>exact I.after hq
theorem pe_callG (hgd:X.A.guards=some []) (F:bM X.prog X.w X.K X.mg X.base CX k f fd ps sp) (hr:Room k X.A) (hg:Gl X x) (hm:X.mg x=some (.ref f)) (hk:PySem.W.keepIn X.K (.ref f)=true) (hb:Binds X.K fd ps ds) (hd:Vals dvs ds) (hx:Passes CX X E)
  (ha:PA X (e::es) t) (hdb:(x==("__debug__" :Str))=false) (he:starEach (e::es) X.env=(false,eval e X.env)::starEach es X.env) (hpl:(backTo pos (starEach es X.env)).any (·.1)=false):
  PE X (.Call (.Name x p) (e::es) [] pos) (tCall sp dvs E t):=
 ⟨fun pins s σ H Q I h=>wpAny_Call_Name_kw (ld_glob I hg hm (PySem.W.callWith_K (h₀:=X.base) I.ok.mod.kin hk (thn (ha.run pos pins s σ H _ I h) fun us s1 ⟨vs,H1,I1,r,q⟩=>⟨I1.kIn,UL hgd F hr hb hd hx I1 r q⟩) he hpl) hdb)⟩
end
abbrev dM:=List DV→Mem→KD→Prop
def dO (K:PySem.W.Frag) (sp:dM):Sp:=fun vs H Q _=> ∃xs M R,bY K (hide H M) vs xs∧cD K H M∧sp xs M R∧Kt K H M R Q
def dD (N:List Str) (xs:List DV):Slots:=xs.map some++List.replicate (N.length-xs.length) none
theorem GX {K:PySem.W.Frag} {H:Hp} (N:List Str) {vs:List V} {xs:List DV} (r:bY K H vs xs):fj K H (start N vs) (dD N xs):=by
 have hl:=bY.len r
 refine⟨by simp [L2.start,dD,hl],fun i x e=> ?_⟩
 unfold dD at e
 by_cases hi:i<xs.length
 ·rw [List.getElem?_append_left (by simpa using hi),List.getElem?_map]at e
  cases ex:xs[i]? with
  |none=>rw [ex]at e;cases e
  |some y=>
   rw [ex]at e
   cases e
   obtain⟨v,ev,rv⟩:=bY.get r ex
   exact⟨v,by unfold L2.start;rw [List.getElem?_append_left (by rw [List.length_map];omega),List.getElem?_map,ev];rfl,rv⟩
 ·rw [List.getElem?_append_right (by simpa using hi),List.getElem?_replicate]at e
  split at e<;>cases e
end DL
namespace DL
open PySem PySem.Spec PyProof.Rows L2
section
variable {P:Program} {w:World} {K:PySem.W.Frag} {mg mb:Str→Option Value} {CX:CXT} {k:Nat} {fa a:Addr} {fd:FuncData} {x:Str} {sp:Sp} {s₁:Shared} {vs:List Value} {ns:List Int}
theorem Wk {H:Hp} (hH: ∀b,H b≠none→b=a∧K.lookup a=none∧ ∃xs,H b=some (.frz {cls:= .type "list",data:= .seq vs.toArray} (.lst xs))) (hok:HOk P w H s₁.heap)
  (KX:K.In s₁.heap) (hns:s₁.heap.Ns mainGlobals mg) (hb:s₁.heap.Ns builtinsNs mb) (hbb: ∀x:Str,x≠ "__name__" →mb x=bootBuiltins x) (hlim:s₁.heap.NoLimit) (hg:s₁.gens= #[])
  (ha:s₁.heap.get? a=some {cls:= .type "list",data:= .seq vs.toArray}) (hr:Room k callerA)
  (F: ∀base:Heap,K.In base→base.Ns mainGlobals mg→bM P w K mg base CX k fa fd [x] sp) (hbind: ∀(s:Shared) (u:Value),BindsTo s fd ⟨[u],[]⟩ [(x,u)])
  (hsp:sp [.ref a] H (fun v _=>v= .bl true) fun _ _ _=>False) (hCX: ∀e s',CX [] H s₁ (fun _ _ _=>False) e s'→False):
  codeAny (model P w) callerA (.call (.ref fa) ⟨[.ref a],[]⟩) (fun r s'=>r= .ok (.ret (.bool true))∧OldK s₁.heap s'.heap∧s'.os=s₁.os∧AllBare s'.gens) s₁:=by
 have aiB: ∀{b:Addr} {o:Obj},s₁.heap.get? b=some o→(∀its n,o.data≠ .seq its n)→H b=none:=fun {b o} e nd=>by
  cases q:H b with
  |none=>rfl
  |some u=>
   obtain⟨rfl,_⟩:=hH b (by rw [q];simp)
   rw [ha]at e
   cases e
   exact absurd rfl (nd _ _)
 have ns1: ∀{b:Addr} {m:Str→Option Value},s₁.heap.Ns b m→(hidT s₁.heap H).Ns b m:=by
  rintro b m ⟨o,es,ep,e,d,r⟩
  exact⟨o,es,ep,hidT_get e (aiB e fun its n z=>by rw [d]at z;cases z),d,r⟩
 have inB:K.In (hidT s₁.heap H):=by
  intro b o e
  refine hidT_get (KX b o e) ?_
  cases q:H b with
  |none=>rfl
  |some u=>
   obtain⟨rfl,hk,_⟩:=hH b (by rw [q];simp)
   rw [hk]at e
   cases e
 have md:Mod K mg (hidT s₁.heap H):=by
  refine⟨inB,ns1 hns,⟨mb,ns1 hb,hbb⟩,?_⟩
  obtain⟨mc,h1,h2⟩:=hlim
  exact⟨mc,ns1 h1,h2⟩
 have nofr: ∀b:Addr,b∉frs ([]:List Env):=fun b z=>by cases z
 have e0:Env0 P w K mg (hidT s₁.heap H) callerA [] s₁ H:=⟨rfl,md,fun _ _ e=>of_hidT e,Nat.le_of_eq (hidT_size _ _),trivial,fun b z=>absurd z (nofr b),hok,.of_eq hg⟩
 refine codeAny_mono ((F _ inB (ns1 hns)).run callerA [] s₁ H ⟨[.ref a],[]⟩ [.ref a] [.ref a] _ _ rfl hr e0 (hbind s₁ (.ref a)) (.cons rfl .nil) hsp) ?_
 intro r s' h
 match r,h with
 | .error e,h=>exact(hCX e s' h).elim
 | .ok (.ret u),h=>
  obtain⟨v,H',os,bare,un,hok',r',q⟩:=h
  have q':v= .bl true:=q
  subst q'
  obtain rfl:u=Value.bool true:=r'
  refine⟨rfl,OldK.of_keep fun b o e=> ?_,os,bare⟩
  cases hq:H b with
  |none=>exact un.keep b o e hq (nofr b) (by simp)
  |some u=>
   obtain⟨rfl,_,xs,z⟩:=hH b (by rw [hq];simp)
   obtain⟨e2,_⟩:=hok' b _ (un.frzs b _ _ z)
   rw [ha]at e
   cases e
   exact e2
theorem ac_ (KX:K.In s₁.heap) (hns:s₁.heap.Ns mainGlobals mg) (hb:s₁.heap.Ns builtinsNs mb) (hbb: ∀x:Str,x≠ "__name__" →mb x=bootBuiltins x) (hlim:s₁.heap.NoLimit) (hg:s₁.gens= #[])
  (ha:s₁.heap.get? a=some {cls:= .type "list",data:= .seq vs.toArray}) (hi:IntsAre vs ns) (hl:ns.length≤sizeLine) (hr:Room k callerA)
  (F: ∀base:Heap,K.In base→base.Ns mainGlobals mg→bM P w K mg base CX k fa fd [x] sp) (hbind: ∀(s:Shared) (u:Value),BindsTo s fd ⟨[u],[]⟩ [(x,u)])
  (hsp: ∀H:Hp,SqL K H a (ns.map V.int)→sp [.ref a] H (fun v _=>v= .bl true) fun _ _ _=>False) (hCX: ∀H e s',CX [] H s₁ (fun _ _ _=>False) e s'→False):
  codeAny (model P w) callerA (.call (.ref fa) ⟨[.ref a],[]⟩) (fun r s'=>r= .ok (.ret (.bool true))∧OldK s₁.heap s'.heap∧s'.os=s₁.os∧AllBare s'.gens) s₁:=by
 have rv:=vals_ints hi
 cases hk:K.lookup a with
 |some o=>
  have e:=KX a o hk
  rw [ha]at e
  cases e
  have sq:SqL K (fun _=>none) a (ns.map V.int):= .inr ⟨_,vs.toArray,_,hk,rfl,rfl,rfl,by rw [List.size_toArray,hi.length];exact hl,by simpa using rv⟩
  exact Wk (H:=fun _=>none) (fun b z=>absurd rfl z) (fun b u z=>by cases z) KX hns hb hbb hlim hg ha hr F hbind (hsp _ sq) fun e s'=>hCX _ e s'
 |none=>
  have at1:(fun b=>if b=a then some (HO.frz {cls:= .type "list",data:= .seq vs.toArray} (.lst (ns.map V.int)))else none:Hp) a=some (.frz {cls:= .type "list",data:= .seq vs.toArray} (.lst (ns.map V.int))):=if_pos rfl
  refine Wk (H:=fun b=>if b=a then some (.frz {cls:= .type "list",data:= .seq vs.toArray} (.lst (ns.map V.int)))else none) (fun b z=> ?_) (fun b u z=> ?_) KX hns hb hbb hlim hg ha hr F hbind (hsp _ (.inl (.inr ⟨_,at1⟩))) fun e s'=>hCX _ e s'
  ·by_cases hb:b=a
   ·exact⟨hb,hk,_,if_pos hb⟩
   ·exact absurd (if_neg hb) z
  ·by_cases hb:b=a
   ·have z':=(if_pos hb).symm.trans z
    cases z'
    subst hb
    exact⟨ha,by rw [List.length_map];exact hl,vs,_,rv,ha⟩
   ·have z':=(if_neg hb).symm.trans z
    cases z'
end
theorem aeb {l:PySem.W.OpenLaw} {n k:Nat} {q:Program} {loose:List Str} {XP:(Str→Option Value)→Heap→Prop} {YP:World→Heap→Prop} {d:DefRec} {K:Params→PySem.W.Frag} {CX:CXT} {sp:PySem.W.Frag→Sp} {x:Str}
  (hn:l.most=some n) (hn2:n≤sizeLine) (hdf:d.params.defaults= []) (hr:Room k callerA) (hY: ∀(w:World) (h:Heap),YP w h→(K w.params).In h)
  (F: ∀(w:World) (mg:Str→Option Value) (fa:Addr) (h:Heap),(K w.params).In h→h.Ns mainGlobals mg→mg d.name=some (.ref fa)→
   ∃fd:FuncData,(∀(s:Shared) (u:Value),BindsTo s fd ⟨[u],[]⟩ [(x,u)])∧ ∀base:Heap,(K w.params).In base→base.Ns mainGlobals mg→bM l.prog w (K w.params) mg base CX k fa fd [x] (sp (K w.params)))
  (hsp: ∀(K:PySem.W.Frag) (H:Hp) (a:Addr) (ns:List Int),ns.length≤n→SqL K H a (ns.map V.int)→sp K [.ref a] H (fun v _=>v= .bl true) fun _ _ _=>False)
  (hCX: ∀(H:Hp) (s:Shared) (e:Value) (s':Shared),CX [] H s (fun _ _ _=>False) e s'→False):PySem.W.WalkO q loose XP YP l.row.toRowW d [] (fun f vs=>PySem.call f vs):=by
 refine Att.attach_call hn hdf ?_
 intro w s₀ s₁ mg mb fa o pm cd doc a vs ns G Y ho hd hcd hmg hobj hints hlen hg
 obtain⟨fd,hb,hF⟩:=F w mg fa _ (hY w _ Y) G.T.g hmg
 exact ac_ (hY w _ Y) G.T.g G.T.b G.T.builtins G.T.nolimit hg hobj hints (Nat.le_trans hlen hn2) hr hF hb (fun H hS=>hsp _ H a ns hlen hS) fun H e s'=>hCX H s₁ e s'
end DL
namespace DL
open PySem PySem.Spec PyProof.Rows L2
theorem ac7 (l:Addr) (items:Array Value) (n:Nat) (dd:Option Addr) (sl:Array (Option Value)) (x:Int) (u:Tok) (c0:(decide (x< -(2^63))||decide (x≥2^63))=false) (c1:(items.isEmpty||x==1)=false) (c2:(decide (x≤0)||items.isEmpty)=true):
  Meets (Builtin.«tuple.__mul__» ⟨[.ref l,.int x u],[]⟩) (fun _ R s=>s.heap.get? l=some {cls:= .type "tuple",dict:=dd,data:= .seq items n,slots:=sl}∧
   R (.ok (.ret (Value.ref s.heap.objs.size))) {s with heap:=s.heap.push {cls:=Value.type "tuple",data:=Data.seq #[]},toks:=s.toks}):=
 .of_wp fun prog w A R s h=>by
  obtain⟨hp,g,d,tk,os⟩:=s
  obtain⟨hl,h⟩:=h
  have f1:=AutoSeq1.idx_int
  wp_walk using wpAny_loadPart' hl
  repeat (first
   |(refine wpAny_ite_false (decide_eq_false (by rw [c0];exact Bool.false_ne_true)) ?_;wp_walk using wpAny_loadPart' hl)
   |(refine wpAny_ite_false (decide_eq_false (by rw [c1];exact Bool.false_ne_true)) ?_;wp_walk using wpAny_loadPart' hl)
   |(refine wpAny_ite_true (decide_eq_true c2) ?_;wp_walk using wpAny_loadPart' hl))
  exact⟨_,rfl,h⟩
theorem agi (l:Addr) (items:Array Value) (n:Nat) (dd:Option Addr) (sl:Array (Option Value)) (x:Int) (u:Tok) (c0:(decide (x< -(2^63))||decide (x≥2^63))=false) (c1:(items.isEmpty||x==1)=true):
  Meets (Builtin.«tuple.__mul__» ⟨[.ref l,.int x u],[]⟩) (fun _ R s=>s.heap.get? l=some {cls:= .type "tuple",dict:=dd,data:= .seq items n,slots:=sl}∧R (.ok (.ret (Value.ref l))) s):=
 .of_wp fun prog w A R s h=>by
  obtain⟨hp,g,d,tk,os⟩:=s
  obtain⟨hl,h⟩:=h
  have f1:=AutoSeq1.idx_int
  wp_walk using wpAny_loadPart' hl
  repeat (first
   |(refine wpAny_ite_false (decide_eq_false (by rw [c0];exact Bool.false_ne_true)) ?_;wp_walk using wpAny_loadPart' hl)
   |(refine wpAny_ite_true (decide_eq_true c1) ?_;wp_walk using wpAny_loadPart' hl))
  exact⟨_,rfl,h⟩
section
variable {X:Cx} {M:Mem}
def rep {α:Type} (xs:List α) (k:Int):List α:=(List.replicate k.toNat xs).flatten
theorem cI.rep {K:PySem.W.Frag} {H:Hp} {vs:List V} {ds:List PyData} (r:cI K H vs ds): ∀n:Nat,cI K H (List.replicate n vs).flatten (List.replicate n ds).flatten
 |0=> .nil
 |n+1=>by
  rw [List.replicate_succ,List.replicate_succ,List.flatten_cons,List.flatten_cons]
  exact r.append (r.rep n)
def afB (K:PySem.W.Frag):R2:=fun x y H Q=> ∃l k xs,x= .ref l∧y= .int k∧SqT K H l xs∧xs≠ []∧ -1000≤k∧k≤1000∧xs.length≤1000∧(k=1→Q (.ref l) H)∧(k≠1→yD H (List.replicate k.toNat xs).flatten Q)
theorem ahD:OpR X (binaryOp .Mult) (afB X.K):=by
 rintro pins s σ H x y v u Q I rx ry ⟨l,k,xs,rfl,rfl,hT,hne,h1,h2,hz,q1,q2⟩
 cases rx
 obtain⟨t,rfl⟩:=ry
 obtain⟨its,r,⟨⟨cls,dd,data,sl⟩,ho,hc,n,hd⟩,hs⟩:=I.tuple hT
 simp only at hc hd
 subst hc hd
 have hle:its.length=xs.length:=r.length.symm
 have hi:its.toArray.isEmpty=false:=by
  cases r with
  |nil=>exact absurd rfl hne
  |cons _ _=>rfl
 have c0:(decide (k< -(2^63))||decide (k≥2^63))=false:=by
  rw [decide_eq_false (by omega),decide_eq_false (by omega)]<;>rfl
 have go: ∀{Q':Value→Shared→Prop} {S:Around→(Result→Shared→Prop)→Shared→Prop},Meets (Builtin.«tuple.__mul__» ⟨[.ref l,.int k t],[]⟩) S→(∀A R,(∀v s',Q' v s'→R (.ok (.ret v)) s')→S A R s)→wpAny (model X.prog X.w) X.A (binaryOp .Mult (.ref l) (.int k t)) Q' X.xe s:=by
  intro Q' S me hS
  exact wpAny_binaryOp_repeat_ref (T:= "tuple") (U:= "int") (by decide) ⟨_,ho,rfl⟩ (fun s'=>typeIs_int s' k t) noFill_tuple_mul F.fills_int_mul F.slot_int_rmul repeat_tuple F.slot_int_index.lookup
   (call_meets F.slot_int_rmul (typeIs_int s k t) F.entry_int_rmul (F.args_int_rmul_2 _ _) (int_rmul_tuple k t l its.toArray n dd sl)
    ⟨ho,rfl,⟨_,ho,rfl⟩,call_meets F.slot_tuple_mul ⟨_,ho,rfl⟩ F.entry_tuple_mul (F.args_tuple_mul_2 _ _) me (hS _ _ fun _ _ z=>z)⟩)
 have flen: ∀{α:Type} (ys:List α),ys.length=xs.length→(List.replicate k.toNat ys).flatten.length≤sizeLine:=fun ys e=>by
  rw [lm_len_rep_flat,e,sizeLine_eq]
  have a1:k.toNat*xs.length≤1000*1000:=Nat.mul_le_mul (by omega) hz
  omega
 by_cases h4:k=1
 ·refine go (agi l its.toArray n dd sl k t c0 (by rw [hi,h4]<;>rfl)) fun A R hR=>⟨ho,hR _ _ ⟨.ref l,H,I,rfl,q1 h4⟩⟩
 ·have c1:(its.toArray.isEmpty||k==1)=false:=by rw [hi,Bool.false_or];exact beq_eq_false_iff_ne.mpr h4
  by_cases h3:2≤k
  ·have hm:((its.toArray.size:Nat):Int)*k≤1000000:=by
    rw [List.size_toArray,hle]
    have a1:((xs.length:Nat):Int)*k≤1000*k:=Int.mul_le_mul_of_nonneg_right (by omega) (by omega)
    omega
   have c2:(decide (k≤0)||its.toArray.isEmpty)=false:=by rw [hi,Bool.or_false];exact decide_eq_false (by omega)
   have c4:Builtin.Tuple.tupleTooMany (((its.toArray.size:Nat):Int)*k)=false:=by unfold Builtin.Tuple.tupleTooMany;rw [sizeLine_eq];exact decide_eq_false (by omega)
   refine go (tuple_mulW l its.toArray n dd sl k t c0 c1 c2 (by omega) c4 (by rw [size_rep,List.size_toArray];exact flen its hle)) fun A R hR=>⟨ho,?_⟩
   rw [size_rep]
   exact hR _ _ (Dj I (r.rep k.toNat) (flen xs rfl) (q2 h4))
  ·refine go (ac7 l its.toArray n dd sl k t c0 c1 (by rw [decide_eq_true (by omega)]<;>rfl)) fun A R hR=>⟨ho,hR _ _ ?_⟩
   have e0:k.toNat=0:=by omega
   have q3:=q2 h4
   rw [e0]at q3
   exact Dj (its:= []) I .nil (Nat.zero_le _) q3
def qY:PyData→PyData→Mem→KD→Prop
 | .int i,.int j,M,R=>(CMul i j∨CMulW i j)∧R (.d (.int (i*j))) M
 | .tuple xs,.int k,M,R=>(xs≠ []∧ -1000≤k∧k≤1000∧xs.length≤1000)∧R (.d (.tuple (rep xs k))) M
 | .list xs,.int k,M,R=>(-(2^63)≤k∧k<2^63∧xs.length*k.toNat≤sizeLine)∧R (.d (.list (rep xs k))) M
 |_,_,_,_=>False
theorem rW:iW X (binaryOp .Mult) (g2 qY):=pH fun pins s σ H x y v u Q dx dy M R I rv ru hm rx ry hg k=>by
 cases rx with
 |int i=>
  cases ry with
  |int j=>
   rcases hg with⟨hc|hc,hg⟩
   ·exact op_mul pins s σ H _ _ v u Q I rv ru ⟨i,j,rfl,rfl,hc,dJ k hm hg (.int _)⟩
   ·exact op_mulW pins s σ H _ _ v u Q I rv ru ⟨i,j,rfl,rfl,hc,dJ k hm hg (.int _)⟩
  |_=>exact hg.elim
 |tup h1 r1=>
  cases ry with
  |int j=>
   rename_i a xs ds
   obtain⟨⟨n1,n2,n3,n4⟩,hg⟩:=hg
   refine ahD pins s σ H _ _ v u Q I rv ru ⟨_,j,_,rfl,rfl,jZ (d8 _ _) h1.t,fun z=>n1 (by subst z;cases r1;rfl),n2,n3,by rw [r1.len];exact n4,fun e=> ?_,fun _=> ?_⟩
   ·have e1:rep ds j=ds:=by
     unfold rep
     rw [e]
     simp
    rw [e1]at hg
    exact dJ k hm hg (.tup h1 r1)
   ·exact Gu k hm hg (r1.rep _)
  |_=>exact hg.elim
 |lst h1 r1=>
  cases ry with
  |int j=>
   obtain⟨⟨n1,n2,n3⟩,hg⟩:=hg
   exact op_rep pins s σ H _ _ v u Q I rv ru ⟨_,j,_,rfl,rfl,d8 _ _ _ _ h1,n1,n2,by rw [r1.len];exact n3,fun p n=>uU k hm n hg (wU hm n (r1.rep _))⟩
  |_=>exact hg.elim
 |_=>exact hg.elim
end
end DL
namespace DL
open PySem PySem.Spec PyProof.Rows L2
open AutoSeq1 (wpAny_loadPart')
theorem aen (l:Addr) (items:Array Value) (n:Nat) (dct:Option Addr) (sl:Array (Option Value)):
  Meets (Builtin.«enumerate.__new__» ⟨[.type "enumerate",.ref l],[]⟩) (fun _ R s=>s.heap.get? l=some {cls:= .type "tuple",dict:=dct,data:= .seq items n,slots:=sl}∧
   R (.ok (.ret (.ref (s.heap.push {cls:= .type "tuple_iterator",data:= .fields #[.ref l,.int 0 0]}).objs.size)))
    {s with heap:=(s.heap.push {cls:= .type "tuple_iterator",data:= .fields #[.ref l,.int 0 0]}).push {cls:= .type "enumerate",data:= .fields #[.none,.bool false,.ref s.heap.objs.size,rawInt 0,.none,.none]}}):=
 .of_wp fun prog w A R s h=>by
  obtain⟨hp,g,d,tk,os⟩:=s
  obtain⟨hl,h⟩:=h
  have hsub:=sub_enumerate
  have hL:Heap.IsTuple (Shared.heap ⟨hp,g,d,tk,os⟩) l items:=⟨_,hl,rfl,n,rfl⟩
  wp_walk using wpAny_loadPart' hl
  refine wpAny_stack_any fun st=>wpAny_pure ?_
  split
  ·rename_i c _ _ _ _ _
   cases (c==Value.type "enumerate")
   ·wp_walk using wpAny_loadPart' hl,wpAny_pyIter_tuple hL
    exact⟨_,rfl,h⟩
   ·wp_walk using wpAny_loadPart' hl,wpAny_pyIter_tuple hL
    exact⟨_,rfl,h⟩
  ·wp_walk using wpAny_loadPart' hl,wpAny_pyIter_tuple hL
   exact⟨_,rfl,h⟩
section
variable {prog:Program} {w:World} {A:Around} {E:Value→Shared→Prop} {s:Shared}
theorem aeN {l:Addr} {items:Array Value} {Q:Value→Shared→Prop} (hL:s.heap.IsTuple l items)
  (h: ∀h',IsEnum h' (s.heap.objs.size+1) s.heap.objs.size 0 .none→h'.IsTupleIter s.heap.objs.size l 0→h'.objs.size=s.heap.objs.size+2→
   (∀b o,s.heap.get? b=some o→h'.get? b=some o)→Q (.ref (s.heap.objs.size+1)) {s with heap:=h'}):wpAny (model prog w) A (call (.type "enumerate") [.ref l]) Q E s:=by
 obtain⟨⟨c,dct,dt,sl⟩,hl,hc,n,hd⟩:=hL
 simp only at hc hd
 subst hc hd
 refine callType_new F.called_enumerate (by decide) (F.typeCall_enumerate_1 _) (F.newCall_enumerate_1 _) (fun obj=>F.args_object_init_2 obj _) F.entry_enumerate_new (aen l items n dct sl) ⟨hl,?_⟩
 have hz:(s.heap.push {cls:= .type "tuple_iterator",data:= .fields #[.ref l,.int 0 0]}).objs.size=s.heap.objs.size+1:=Heap.size_push ..
 show _∧_
 rw [hz]
 have he:IsEnum ((s.heap.push {cls:= .type "tuple_iterator",data:= .fields #[.ref l,.int 0 0]}).push
   {cls:= .type "enumerate",data:= .fields #[.none,.bool false,.ref s.heap.objs.size,rawInt 0,.none,.none]}) (s.heap.objs.size+1) s.heap.objs.size 0 .none:=by
  have q:=Heap.get?_push_size (s.heap.push {cls:= .type "tuple_iterator",data:= .fields #[.ref l,.int 0 0]}) (o:={cls:= .type "enumerate",data:= .fields #[.none,.bool false,.ref s.heap.objs.size,rawInt 0,.none,.none]}) rfl
  rw [hz]at q
  exact q
 exact⟨⟨_,he,rfl⟩,h _ he ⟨_,Heap.get?_push_of_some _ (Heap.get?_push_size _ rfl),rfl,rfl⟩ (by rw [Heap.size_push,hz]) fun b o x=>Heap.get?_push_of_some _ (Heap.get?_push_of_some _ x)⟩
end
def Kv (K:PySem.W.Frag) (a:Addr):It:=
 ⟨fun i H=> ∃(xs:List V) (x:V),SqT K H a xs∧xs[i]? =some x,fun i H v H'=> ∃T x,v= .ref T∧H T=none∧H'=upd H T (.tup [.int (i:Nat),x])∧ ∀xs,SqT K H a xs→xs[i]? =some x,fun i H=> ∃xs:List V,SqT K H a xs∧xs.length=i⟩
theorem ac5 {P:Program} {w:World} {K:PySem.W.Frag} {elts:List Expr} {kk:Nat} {tpos:Pos} (a e it:Addr):
  Turn P w K (.Tuple elts kk tpos) (Kv K a) [e,it] e (fun i h=>(∃old,IsEnum h e it ((i:Nat):Int) old)∧h.IsTupleIter it a i∧e≠it∧a≠it∧e≠a) where
 mem:=by simp
 obj:=fun i h st b hb=>by
  obtain⟨⟨old,he⟩,⟨o,ho,hc,hd⟩,_⟩:=st
  have e':b=e∨b=it:=by simpa using hb
  rcases e' with z|z
  ·rw [z]
   exact⟨_,he,fun v q=>nomatch q⟩
  ·rw [z]
   exact⟨o,ho,fun v q=>by rw [hd]at q;cases q⟩
 keep:=fun i h h' st k=>let ⟨⟨old,he⟩,hi,hne⟩:=st;⟨⟨old,k e (by simp) _ he⟩,hi.at fun o q=>k it (by simp) o q,hne⟩
 item:=by
  intro X hP hw hK hc i pins s σ H E I hf st hg
  subst hP hw hK
  obtain⟨⟨old,he⟩,hit,hne,hai,hea⟩:=st
  obtain⟨xs,x,hq,hx⟩:=hg
  obtain⟨its,rv,p,hz⟩:=I.tuple hq
  obtain⟨u,hu,ru⟩:=rv.get hx
  have hlen:=rv.length
  have hi:i<its.toArray.size:=by
   rw [List.size_toArray]
   exact(List.getElem?_eq_some_iff.mp hu).1
  have hel:e<s.heap.objs.size:=Heap.lt_size he
  have hil:it<s.heap.objs.size:=by obtain⟨_,q,_⟩:=hit;exact Heap.lt_size q
  refine wpAny_pyNext_enum_itemD (Draws.tuple (A:=X.A.in1) (I.ok.hd hc) it a hai its.toArray) he ⟨hit,p⟩ hi hne (by simp [hne,hea]) fun u' h' tk pu ho hst hT hsz hk=> ?_
  have eu:u'=u:=by
   have q:its.toArray[i]? =some u:=by simpa using hu
   exact Option.some.inj (pu.symm.trans q)
  subst eu
  refine⟨_,rfl,wpAny_letOwnedTupleGo_enum (s:={s with heap:=h',toks:=tk+1}) ho fun h'' he' sb=> ?_⟩
  have hT2:h''.get? s.heap.objs.size=some {cls:= .type "tuple",data:= .seq #[.int i tk,u']}:=(sb.2 _ (Nat.ne_of_gt hel)).trans hT
  have new:ObjOk X.prog X.w (upd H s.heap.objs.size (.tup [.int (i:Nat),x])) h'' s.heap.objs.size (.tup [.int (i:Nat),x]):=
   ⟨by show 2≤sizeLine;decide,[.int i tk,u'],.cons ⟨_,rfl⟩ (.cons ru .nil),⟨_,hT2,rfl,_,rfl⟩⟩
  have I1:Inv X pins σ (upd H s.heap.objs.size (.tup [.int (i:Nat),x])) {s with heap:=h'',toks:=tk+1}:=
   I.turnedNew (ch:= [e,it]) (fun b ob hb q=>(sb.2 b (fun z=>hb (by simp [z]))).trans (hk b ob (fun z=>hb (by simp [z])) (fun z=>hb (by simp [z])) q)) hf (Nat.le_refl _) new
  refine⟨.ref s.heap.objs.size,_,I1,rfl,⟨_,x,rfl,I.hok.fresh (Nat.le_refl _),rfl,fun ys hy=>by rw [I.tuple_inj hy hq];exact hx⟩,⟨⟨u',?_⟩,hst.1.at fun o q=>(sb.2 it (Ne.symm hne)).trans q,hne,hai,hea⟩,fun b hb=> ?_⟩
  ·have e1:((i+1:Nat):Int)=(i:Int)+1:=by omega
   rw [e1]
   exact he'
  ·have hb':b<s.heap.objs.size:=by
    have e':b=e∨b=it:=by simpa using hb
    rcases e' with z|z
    ·rw [z];exact hel
    ·rw [z];exact hil
   rw [upd_ne (Nat.ne_of_lt hb')]
   exact(hf b hb).1
 done:=by
  intro X hP hw hK hc i pins s σ H E I hf st hg
  subst hP hw hK
  obtain⟨⟨old,he⟩,hit,hne,hai,hea⟩:=st
  obtain⟨xs,hq,hx⟩:=hg
  obtain⟨its,rv,p,hz⟩:=I.tuple hq
  obtain⟨f0,f1,f2,f3,f4,f5⟩:=hf it (by simp)
  have hl:=rv.length
  have ei:its.toArray.size=i:=by rw [List.size_toArray];omega
  exact wpAny_pyNext_enum_endD (Draws.tuple (A:=X.A.in1) (I.ok.hd hc) it a hai its.toArray) he (by rw [ei];exact⟨hit,p⟩) fun h' eb=>⟨rfl,I.turned (t':=s.toks) (fun b o hb q=>eb b o hb q) f0 f1 f3 f4 f5⟩
 self:=fun A i s Q E st h=>let ⟨⟨_,he⟩,_⟩:=st;wpAny_pyIter_enum he h
def adE (K:PySem.W.Frag) (ta:TA):TI:=fun σ H R=>ta σ H fun vs H1=>(∃a xs,vs= [.ref a]∧SqL K H1 a xs∧R (Ite K a) H1)∨ ∃a xs,vs= [.ref a]∧SqT K H1 a xs∧R (Kv K a) H1
theorem ah7 {X:Cx} {e:Expr} {ta:TA} {p pos tpos:Pos} {elts:List Expr} {kk:Nat} (hg:Gl X "enumerate") (hm:X.mg "enumerate" =none) (ha:PA X [e] ta) (hs:starEach [e] X.env= [(false,eval e X.env)]):
  PI X (.Tuple elts kk tpos) (.Call (.Name "enumerate" p) [e] [] pos) (adE X.K ta):=by
 refine⟨fun pins s σ H R I h=> ?_⟩
 refine Call_ (ld_blt I hg hm boot_enumerate (PyProof.Rows.callWith_type1 (thn (ha.run pos pins s σ H _ I h) ?_) hs rfl))
 intro us s1 hh
 obtain⟨vs,H1,I1,r1,q1⟩:=hh
 have new: ∀b∈ [s1.heap.objs.size+1,s1.heap.objs.size],FpOk X pins H1 b:=fun b hb=>by
  have hle:s1.heap.objs.size≤b:=by
   rcases List.mem_cons.mp hb with z|z
   ·omega
   ·rw [List.mem_singleton.mp z];exact Nat.le_refl _
  exact I1.fpOk hle (I1.hok.fresh hle)
 rcases q1 with⟨a,xs,ex,hq,q⟩|⟨a,xs,ex,hq,q⟩
 ·subst ex
  obtain⟨u,rfl,ru⟩:=vals1 r1
  cases ru
  obtain⟨its,rv,p',hz⟩:=I1.list hq
  refine call_enumerate_list p'.isList fun h' he hit hsz hk=>wpAny_pyIter_enum he ?_
  exact⟨_,_,_,_,H1,rfl,I1.kept (t':=s1.toks) hk,turn_enum a (s1.heap.objs.size+1) s1.heap.objs.size,⟨⟨.none,he⟩,hit,Nat.succ_ne_self _⟩,new,q⟩
 ·subst ex
  obtain⟨u,rfl,ru⟩:=vals1 r1
  cases ru
  obtain⟨its,rv,p',hz⟩:=I1.tuple hq
  have hal:a<s1.heap.objs.size:=p'.lt
  refine aeN p' fun h' he hit hsz hk=>wpAny_pyIter_enum he ?_
  exact⟨_,_,_,_,H1,rfl,I1.kept (t':=s1.toks) hk,ac5 a (s1.heap.objs.size+1) s1.heap.objs.size,⟨⟨.none,he⟩,hit,Nat.succ_ne_self _,Nat.ne_of_lt hal,Nat.ne_of_gt (Nat.lt_succ_of_lt hal)⟩,new,q⟩
section
variable {X:Cx} {tas:eY}
def uY (ds:List PyData):List DV:=ds.zipIdx.map fun p=>DV.pr (.d (.int (p.2:Nat))) (.d p.1)
theorem Hq (ds:List PyData):(uY ds).length=ds.length:=by unfold uY;rw [List.length_map,List.length_zipIdx]
theorem JM (ds:List PyData) (i:Nat):(uY ds)[i]? =ds[i]?.map fun d=>DV.pr (.d (.int (i:Nat))) (.d d):=by
 unfold uY
 rw [List.getElem?_map,List.getElem?_zipIdx]
 cases ds[i]? <;>simp
def YB (ta:eY):lG:=fun sl M R=>ta sl M fun xs M1=>match xs with
 | [.d (.list ds)]=>R (uY ds) M1
 | [.d (.tuple ds)]=>R (uY ds) M1
 |_=>False
theorem YJ {K:PySem.W.Frag} {H1 H2:Hp} {M1:Mem} {T:Addr} {i:Nat} {x:V} {d:PyData} (m:cD K H1 M1) (n:H1 T=none) (e:H2=upd H1 T (.tup [.int (i:Nat),x])) (rd:RD K (hide H1 M1) x d):
  Le H1 M1 H2 M1∧cD K H2 M1∧RV K (hide H2 M1) (.ref T) (.pr (.d (.int (i:Nat))) (.d d)):=by
 subst e
 exact⟨vC n,GZ m n,T,.int (i:Nat),x,rfl,SqT.of (BJ m n),.int _,RD.sub (vC n) rd⟩
theorem ahm {K:PySem.W.Frag} {H:Hp} {M:Mem} {a:Addr} {xs:List V} {ds:List PyData} (h:hide H M a=some (.lst xs)) (r:cI K (hide H M) xs ds):vQ K H M (Ite K a) (uY ds):=fun H1 M1 l m=>by
 have h1:SqL K H1 a xs:=SqL.of (d8 _ _ _ _ (l _ _ h))
 have len:=r.len
 refine⟨fun i hi=> ?_,⟨xs,h1,by rw [Hq];omega⟩⟩
 rw [Hq]at hi
 refine⟨⟨xs,xs[i],h1,by rw [List.getElem?_eq_getElem (by omega)]⟩,fun v H2 y=> ?_⟩
 obtain⟨T,x,rfl,n,e,y⟩:=y
 obtain⟨d,ed,rd⟩:=r.getV (y xs h1)
 obtain⟨p1,p2,p3⟩:=YJ m n e (RD.sub l rd)
 exact⟨p1,p2,.pr (.d (.int (i:Nat))) (.d d),by rw [JM,ed];rfl,p3⟩
theorem adS {K:PySem.W.Frag} {H:Hp} {M:Mem} {a:Addr} {xs:List V} {ds:List PyData} (h:SqT K (hide H M) a xs) (r:cI K (hide H M) xs ds):vQ K H M (Kv K a) (uY ds):=fun H1 M1 l m=>by
 have h1:SqT K H1 a xs:=jZ (d8 _ _) (jZ l h)
 have len:=r.len
 refine⟨fun i hi=> ?_,⟨xs,h1,by rw [Hq];omega⟩⟩
 rw [Hq]at hi
 refine⟨⟨xs,xs[i],h1,by rw [List.getElem?_eq_getElem (by omega)]⟩,fun v H2 y=> ?_⟩
 obtain⟨T,x,rfl,n,e,y⟩:=y
 obtain⟨d,ed,rd⟩:=r.getV (y xs h1)
 obtain⟨p1,p2,p3⟩:=YJ m n e (RD.sub l rd)
 exact⟨p1,p2,.pr (.d (.int (i:Nat))) (.d d),by rw [JM,ed];rfl,p3⟩
theorem agR {e:Expr} {p pos tpos:Pos} {elts:List Expr} {kk:Nat} (hg:Gl X "enumerate") (hm:X.mg "enumerate" =none) (ha:DA X [e] tas) (hs:starEach [e] X.env= [(false,eval e X.env)]:=by rfl):
  DI X (.Tuple elts kk tpos) (.Call (.Name "enumerate" p) [e] [] pos) (YB tas):=
 PI.imp (ah7 hg hm ha hs) fun σ H R ⟨sl,M,RR,hs,hm,ht,k⟩=>⟨sl,M,_,hs,hm,ht,fun x M1 h1 v H1 l1 m1 r1=>by
  split at h1
  ·cases r1 with
   |cons r1 r2=>
    cases r2
    cases r1 with
    |lst q1 q2=>exact .inl ⟨_,_,rfl,SqL.of (d8 _ _ _ _ q1),k _ M1 h1 _ H1 l1 m1 (ahm q1 q2)⟩
  ·cases r1 with
   |cons r1 r2=>
    cases r2
    cases r1 with
    |tup q1 q2=>exact .inr ⟨_,_,rfl,jZ (d8 _ _) q1.t,k _ M1 h1 _ H1 l1 m1 (adS q1.t q2)⟩
  ·exact h1.elim⟩
end
end DL
namespace DL
open PySem PySem.Spec PyProof.Rows L2
structure Def (P:Program) (w:World) (K:PySem.W.Frag) (mg:Str→Option Value) (base:Heap) (x:Str) (k:Nat) (sp:dM):Prop where
 ex: ∃(f:Addr) (fd:FuncData) (ps:List Str) (spF:dM) (ds:List Value) (dvs:List V) (xds:List DV),bM P w K mg base CX0 k f fd ps (dO K spF)∧mg x=some (.ref f)∧PySem.W.keepIn K (.ref f)=true∧
  Binds K fd ps ds∧Vals dvs ds∧(∀H,bY K H dvs xds)∧ ∀xs M R,sp xs M R→spF (xs++xds) M R
structure ji (K:PySem.W.Frag) (mg:Str→Option Value) (x:Str) (d:DV):Prop where
 ex: ∃v u,mg x=some u∧RelV v u∧ ∀H,RV K H v d
section
variable {P:Program} {w:World} {K:PySem.W.Frag} {mg:Str→Option Value} {base:Heap}
theorem Def.of {x:Str} {k:Nat} {sp:dM} {f:Addr} {fd:FuncData} {ps:List Str} (F:bM P w K mg base CX0 k f fd ps (dO K sp)) (m:mg x=some (.ref f)) (kp:PySem.W.keepIn K (.ref f)=true) (b:Binds K fd ps []):Def P w K mg base x k sp:=
 ⟨f,fd,ps,sp,[],[],[],F,m,kp,b,.nil,fun _=> .nil,fun xs M R h=>by rw [List.append_nil];exact h⟩
structure dw (K:PySem.W.Frag) (x qual:Str) (st:Stmt) (dV:Value) (f:Addr) (fd:FuncData):Prop where
 ex: ∃(oc:Value) (od:Option Addr) (kV doc pm:Value) (an:Option Addr) (cdv ct:Value) (osl:Array (Option Value)),
  fd=PySem.W.fnOf x qual (defArgs st) (defBody st) (defScope st) dV kV doc pm an cdv ct∧K.lookup f=some ⟨oc,od,.func fd,osl⟩∧PySem.W.codeIn K cdv qual=true
 kp:PySem.W.keepIn K (.ref f)=true
theorem dY {x qual:Str} {st:Stmt} {f:Addr} {oc:Value} {od an:Option Addr} {osl:Array (Option Value)} {dV kV doc pm cdv ct:Value} (l:K.lookup f=some ⟨oc,od,.func (PySem.W.fnOf x qual (defArgs st) (defBody st) (defScope st) dV kV doc pm an cdv ct),osl⟩)
  (c:PySem.W.codeIn K cdv qual=true) (k:PySem.W.keepIn K (.ref f)=true):dw K x qual st dV f (PySem.W.fnOf x qual (defArgs st) (defBody st) (defScope st) dV kV doc pm an cdv ct):=⟨⟨oc,od,kV,doc,pm,an,cdv,ct,osl,rfl,l,c⟩,k⟩
theorem dw.binds {x qual:Str} {st:Stmt} {f:Addr} {fd:FuncData} {dV:Value} {ps:List Str} (F:dw K x qual st dV f fd)
  (h: ∀(kV doc pm:Value) (an:Option Addr) (cdv ct:Value) (us:List Value),us.length=ps.length→bindArgs (PySem.W.fnOf x qual (defArgs st) (defBody st) (defScope st) dV kV doc pm an cdv ct) ⟨us,[]⟩=pure (ps.zip us)):Binds K fd ps []:=by
 obtain⟨oc,od,kV,doc,pm,an,cdv,ct,osl,rfl,lk,hcd⟩:=F.ex
 exact .all (h kV doc pm an cdv ct)
theorem dw.bindsD {x qual:Str} {st:Stmt} {f T:Addr} {fd:FuncData} {ps:List Str} {tc:Value} {td:Option Addr} {its:List Value} {n:Nat} {ts:Array (Option Value)} (F:dw K x qual st (.ref T) f fd) (lT:K.lookup T=some ⟨tc,td,.seq its.toArray n,ts⟩) (m j:Nat) (hm:m+(its.length-j)=ps.length)
  (h: ∀(kV doc pm:Value) (an:Option Addr) (cdv ct:Value) (us:List Value),us.length=m→ ∃k,bindArgs (PySem.W.fnOf x qual (defArgs st) (defBody st) (defScope st) (.ref T) kV doc pm an cdv ct) ⟨us,[]⟩=seqItems? (.ref T)>>=k∧k (some its.toArray)=pure (ps.zip (us++its.drop j))):Binds K fd ps (its.drop j):=by
 obtain⟨oc,od,kV,doc,pm,an,cdv,ct,osl,rfl,lk,hcd⟩:=F.ex
 intro s us X hlen
 obtain⟨k,e1,e2⟩:=h kV doc pm an cdv ct us (by rw [List.length_append,List.length_drop]at hlen;omega)
 refine L2.BindsTo.of_looks fun M=> ?_
 rw [e1]
 exact looks_items X lT rfl (.of_pure e2)
theorem dw.data {x qual:Str} {st:Stmt} {dV:Value} {f:Addr} {fd:FuncData} {N ps:List Str} {k:Nat} {sp:dM} (F:dw K x qual st dV f fd) (S:FnScope N ps (defScope st)) (len: ∀xs M R,sp xs M R→xs.length=ps.length) (t:bK)
  (hbody: ∀(cdv:Value) (A:Around) (outer:List Env) (s:Shared) (H:Hp) (E:XK),A.guards=some []→Room k (A.deeper (envOfC qual (defScope st) s.heap.objs.size f cdv))→
   mK (cxOf CX0 P w K mg base N qual (defScope st) f cdv A outer s H E).nox (defBody st) t)
  (pure: ∀xs M R,sp xs M R→t {nx:=fun _ M'=>R (.d .none) M',rt:=R} (dD N xs) M):bM P w K mg base CX0 (k+1) f fd ps (dO K sp):=by
 obtain⟨oc,od,kV,doc,pm,an,cdv,ct,osl,rfl,lk,hcd⟩:=F.ex
 refine Ey lk hcd S (fun vs H Q E ⟨xs,M,R,rv,_,hs,_⟩=>(bY.len rv).trans (len xs M R hs)) fun A outer s H vs Q E hg hr ⟨xs,M,R,rv,hm,hs,k⟩=>⟨Bx K t,(hbody cdv A outer s H E hg hr).nox,?_⟩
 exact⟨_,M,_,GX N rv,hm,pure xs M R hs,fun sl M' h σ' H' l m r=>k _ M' h _ H' l m .non,k,fun _ _ z=>z.elim,fun _ _ z=>z.elim⟩
end
section
variable {X:Cx} {x:Str} {p pos:Pos} {a b c e:Expr} {es:List Expr} {ta tb tc te:TD} {tas:eY} {k:Nat} {sp:dM}
theorem Def.de (D:Def X.prog X.w X.K X.mg X.base x k sp) (hgd:X.A.guards=some []) (hr:Room k X.A) (hg:Gl X x) (ha:DA X (e::es) tas) (hdb:(x==("__debug__" :Str))=false:=by decide) (he:starEach (e::es) X.env=(false,eval e X.env)::starEach es X.env:=by rfl)
  (hpl:(backTo pos (starEach es X.env)).any (·.1)=false:=by rfl):DE X (.Call (.Name x p) (e::es) [] pos) (dCall sp tas):=by
 obtain⟨f,fd,ps,spF,ds,dvs,xds,F,m,kp,hb,hv,hx,hi⟩:=D.ex
 exact PE.imp (pe_callG (E:=E0) hgd F hr hg m kp hb hv pass0 ha hdb he hpl) fun σ H Q ⟨sl,M,R,hs,hm,ht,k⟩=>
  ⟨sl,M,_,hs,hm,ht,fun xs M1 h1 vs H1 l1 m1 r1=>⟨xs++xds,M1,R,bY.append r1 (hx _),m1,hi _ _ _ h1,k.le l1⟩⟩
theorem ji.de {d:DV} (g:ji X.K X.mg x d) (hg:Gl X x) (hd:(x==("__debug__" :Str))=false:=by decide):DE X (.Name x pos) (dC d):=by
 obtain⟨v,u,m,r,rd⟩:=g.ex
 exact ae7 hg m r rd hd
end
end DL
namespace DL
open PySem PySem.Spec PyProof.Rows L2
theorem acy {K:PySem.W.Frag} {H:Hp} {a:Addr} {ns:List Int} {sp:dM} {n:Nat} {E:XK} (says: ∀ns M R,ns.length≤n→(∀M',R (.d (.bool true)) M')→sp [.scr ns] M R) (hl:ns.length≤n) (hS:SqL K H a (ns.map V.int)):
  dO K sp [.ref a] H (fun v _=>v= .bl true) E:=by
 have e:hide H (fun _=>none)=H:=by
  funext b
  rfl
 refine⟨[.scr ns],fun _=>none,fun x _=>x= .d (.bool true),?_,fun a o z=>(by cases z),says ns _ _ hl fun _=>rfl,fun x M' h v H' _ _ r=> ?_⟩
 ·rw [e]
  exact .cons ⟨a,rfl,hS⟩ .nil
 ·subst h
  cases r
  rfl
theorem gq {p:Prop} [Decidable p] {A B:Prop} (h1:p→A) (h2: ¬p→B):if decide p=true then A else B:=by
 by_cases h:p
 ·rw [if_pos (decide_eq_true h)]
  exact h1 h
 ·rw [if_neg (by rw [decide_eq_false h];exact Bool.false_ne_true)]
  exact h2 h
theorem acN {p:Prop} [Decidable p] {A B:Prop} (h1: ¬p→A) (h2:p→B):if (!decide p)=true then A else B:=by
 by_cases h:p
 ·rw [decide_eq_true h]
  exact h2 h
 ·rw [decide_eq_false h]
  exact h1 h
theorem cG {k:Bool} {A B:Prop} (e:k=true) (h:A):if k=true then A else B:=by rw [if_pos e];exact h
theorem bW {k:Bool} {A B:Prop} (e:k=false) (h:B):if k=true then A else B:=by rw [e];exact h
theorem afT {k:Bool} {A B:Prop} (h1:k=true→A) (h2:k=false→B):if k=true then A else B:=by
 cases k with
 |true=>exact h1 rfl
 |false=>exact h2 rfl
theorem LK {lo:Int} {n i:Nat} {x:DV} (h:(qO lo n)[i]? =some x):x= .d (.int (lo+(i:Int)))∧i<n:=by
 unfold qO at h
 rw [List.getElem?_map]at h
 cases e:(List.range n)[i]? with
 |none=>rw [e]at h;cases h
 |some j=>
  have hi:i<n:=by
   have:=(List.getElem?_eq_some_iff.mp e).1
   simpa using this
  rw [List.getElem?_range hi]at e
  cases e
  rw [List.getElem?_range hi]at h
  cases h
  exact⟨rfl,hi⟩
theorem Hz {lo:Int} {n:Nat}:(qO lo n).length=n:=by unfold qO;rw [List.length_map,List.length_range]
theorem yu {α:Type} {f:α→DV} {l:List α} {i:Nat} {x:DV} (h:(l.map f)[i]? =some x): ∃a,l[i]? =some a∧x=f a:=by
 rw [List.getElem?_map]at h
 cases e:l[i]? with
 |none=>rw [e]at h;cases h
 |some a=>rw [e]at h;cases h;exact⟨a,rfl,rfl⟩
theorem small {n:Nat} (h:n≤1000000):n≤sizeLine:=Nat.le_trans h (by decide)
theorem Wo {n:Nat} (h:n<1000000):n<sizeLine:=Nat.lt_of_lt_of_le h (by decide)
theorem sz (n:Nat) {m:Nat} (h:n≤1000000:=by decide) (e:m=n:=by rfl):m≤sizeLine:=e▸small h
theorem dR {xs:List DV} {ds:List PyData} {Q:List PyData→Prop} (q:Q ds) (e:jQ xs=some ds:=by rfl) (h:ds.length≤1000000:=by exact Nat.le_of_ble_eq_true rfl):fK (jQ xs) (fun ds=>ds.length≤sizeLine∧Q ds):=bB e ⟨small h,q⟩
abbrev dI (ns:List Int):List PyData:=ns.map PyData.int
theorem acg (a b:List PyData):PyData.eqv (.list a) (.list b)=PyData.eqvAll a b:=by simp only [PyData.eqv]
theorem abW (a:List PyData):PyData.eqv (.list a) (.list [])=decide (a= []):=by
 cases a<;>simp [acg,PyData.eqvAll]
theorem VH: ∀a:List Int,PyData.plainAll (dI a)=true
 | []=>rfl
 |x::xs=>by
  show PyData.plainAll (.int x::dI xs)=true
  rw [PyData.plainAll,VH xs]
  rfl
theorem adX {ds:List PyData} (h:PyData.plainAll ds=true):PyData.plain (.list ds)=true:=by simpa only [PyData.plain]using h
theorem ab9 {ds:List PyData} (h:PyData.plainAll ds=true):Dk (.list ds) (.list []):=⟨adX h,rfl,Nat.le_trans (Nat.min_le_right _ _) (by decide)⟩
theorem afS {a:List Int}:dI a= []↔a= []:=by cases a<;>simp [dI]
theorem Wd {α:Type} (xs:List α) (k:Nat):iH xs (some (k:Int)) none=xs.drop k:=by
 unfold iH
 rw [HT.sIx_nat,HT.sIx_none]
 by_cases h:k≤xs.length
 ·rw [Nat.min_eq_left h,List.take_of_length_le (by rw [List.length_drop];exact Nat.le_refl _)]
 ·rw [Nat.min_eq_right (by omega),List.drop_of_length_le (Nat.le_refl _),List.drop_of_length_le (by omega),List.take_nil]
theorem K8 {α:Type} (xs:List α) (k:Nat):iH xs none (some (k:Int))=xs.take k:=by
 unfold iH
 rw [HT.sIx_nat,HT.sIx_none,List.drop_zero,Nat.sub_zero]
 by_cases h:k≤xs.length
 ·rw [Nat.min_eq_left h]
 ·rw [Nat.min_eq_right (by omega),List.take_length,List.take_of_length_le (by omega)]
theorem HF {α β:Type} (f:α→β) (xs:List α) (i:Int):atI (xs.map f) i=(atI xs i).map f:=by
 unfold atI
 rw [List.length_map]
 cases ixN xs.length i with
 |none=>rfl
 |some j=>show(xs.map f)[j]? =_;rw [List.getElem?_map];rfl
theorem Gi {α:Type} {xs:List α} {j:Nat} (h:j<xs.length):atI xs (j:Int)=some xs[j]:=atI_nat (List.getElem?_eq_getElem h)
def Keeps (p:Addr) (M M':Mem):Prop:= ∀a,a≠p→M' a=M a
theorem Keeps.refl (p:Addr) (M:Mem):Keeps p M M:=fun _ _=>rfl
theorem Keeps.trans {p:Addr} {A B C:Mem} (h:Keeps p A B) (k:Keeps p B C):Keeps p A C:=fun a n=>(k a n).trans (h a n)
theorem Keeps.upd {p:Addr} {M M':Mem} (h:Keeps p M M') (o:MO):Keeps p M (bD M' p o):=fun a n=>by rw [fO n];exact h a n
theorem Mh {M:Mem} {q:Addr} {o:MO} (n:M q=none):cZ (bD M q o) q=M:=by
 funext a
 unfold cZ bD
 by_cases h:a=q
 ·rw [if_pos h,h,n]
 ·rw [if_neg h,if_neg h]
theorem CN {M:Mem} {q:Addr}:cZ M q q=none:=by unfold cZ;rw [if_pos rfl]
theorem m9 {M:Mem} {a q:Addr} (h:a≠q):cZ M q a=M a:=by unfold cZ;rw [if_neg h]
theorem aY {t u:bK} {D:fD} {sl:Slots} {M:Mem} (J:Slots→Mem→Prop) (h1: ∀N:Slots→Mem→Prop,(∀sl M,J sl M→N sl M)→t {D with nx:=N} sl M) (h2: ∀sl M,J sl M→u D sl M):aQ t u D sl M:=sq (h1 (u D) h2)
def WK (x:PyData):Prop:=x.showable=true∧x.depth≤200∧x.shown.length≤sizeLine∧(x.hasDict=true→tY x=true)
theorem Ko {i:Int} (h0:0≤i) (h:i<2^1000):i.natAbs.log2<1920:=by
 have h1:i.natAbs<2^1000:=by omega
 exact Nat.lt_of_lt_of_le (PySem.Flt.log2_lt_of (by decide) h1) (by decide)
end DL
namespace DL
open PySem PySem.Spec PyProof.Rows L2
section
variable {X:Cx} {x:Str} {pos:Pos} {a b c e:Expr} {ta tb te:TD}
theorem afJ {T:String} (hg:Gl X x) (hm:X.mg x=none) (hv:bootBuiltins x=some (.type T)) (hn:x≠ "__name__" :=by decide) (hd:(x==("__debug__" :Str))=false:=by decide):DE X (.Name x pos) (dC (.raw (.ty T))):=
 wg (pe_bltn (v:= .ty T) hg hm hv rfl hn hd) fun _=>rfl
end
structure At (q:Addr) (S:Mem→Prop):Prop where
 loc: ∀A B:Mem,B q=A q→S A→S B
 some: ∀M,S M→M q≠none
theorem afd {items:List DV} {g:jh} {tt:fZ} {te:TD} {vs:List Nat} {sl:Slots} {M1:Mem} {R:KD} {q:Addr} {S:Mem→Prop} (a0:At q S) (Yp:PyData→Prop) (hl:items.length<1000000) (hS:S M1)
  (step: ∀x,x∈items→ ∀(M':Mem) (N:KD) (Z:Mem→Prop),S M'→(∀y M2,Yp y→Keeps q M' M2→S M2→N (.d y) M2)→g x (oH sl vs) M' fun sl2 M2=>tt sl2 M2 fun k M3=>if k=true then te sl2 M3 N else Z M3)
  (h: ∀ys M2,ys.length=items.length→(∀y∈ys,Yp y)→Keeps q M1 M2→S M2→R (.d (.list ys)) M2): ∀p,M1 p=none→ ∃P:Nat→Mem→Prop,P 0 (bD M1 p (.lst []))∧
   (∀i x M,items[i]? =some x→P i M→g x (oH sl vs) M fun sl2 M2=>tt sl2 M2 fun k M3=>if k=true then te sl2 M3 fun y M4=>getL M4 p (fun acc=>acc.length<sizeLine∧P (i+1) (bD M4 p (.lst (acc++ [y]))))else P (i+1) M3)∧
   ∀M,P items.length M→getL M p fun xs=>fK (jQ xs) fun ds=>R (.d (.list ds)) (cZ M p):=by
 intro p np
 have npq:q≠p:=by
  intro e
  subst e
  exact a0.some _ hS np
 refine⟨fun i M=> ∃ys:List PyData,ys.length=i∧(∀y∈ys,Yp y)∧M p=some (.lst (ys.map DV.d))∧(∀a,a≠q→a≠p→M a=M1 a)∧S M,⟨[],rfl,fun y hy=>(by cases hy),cY,fun a _ ha=>fO ha,a0.loc _ _ (fO npq) hS⟩,?_,?_⟩
 ·rintro i x M hx ⟨ys,hi,hy,hp,hk,hs⟩
  refine step x (List.mem_of_getElem? hx) M _ _ hs fun y M2 yy k2 s2=> ?_
  have hp2:M2 p=some (.lst (ys.map DV.d)):=(k2 p (fun e=>npq e.symm)).trans hp
  have hlt:i<items.length:=by
   obtain⟨h,_⟩:=List.getElem?_eq_some_iff.mp hx
   exact h
  refine eV hp2 ⟨Wo (by rw [List.length_map];omega),ys++ [y],by rw [List.length_append,hi];rfl,?_,?_,fun a h1 h2=> ?_,a0.loc _ _ (fO npq) s2⟩
  ·intro z hz
   rcases List.mem_append.mp hz with hz|hz
   ·exact hy z hz
   ·rw [List.mem_singleton.mp hz]
    exact yy
  ·rw [cY,List.map_append]
   rfl
  ·rw [fO h2,k2 a h1]
   exact hk a h1 h2
 ·rintro M ⟨ys,hi,hy,hp,hk,hs⟩
  refine eV hp (bB (YT _) (h ys _ hi hy (fun a ha=> ?_) (a0.loc _ _ (m9 npq) hs)))
  by_cases e:a=p
  ·subst e
   rw [CN,np]
  ·rw [m9 e]
   exact hk a ha e
theorem aef {items:List DV} {g:jh} {tt:fZ} {te:TD} {vs:List Nat} {sl sl':Slots} {i0:Nat} {nx:Slots→Mem→Prop} {M1:Mem} {q:Addr} {S:Mem→Prop} (a0:At q S) (Yp:PyData→Prop) (hl:items.length<1000000) (hS:S M1)
  (step: ∀x,x∈items→ ∀(M':Mem) (N:KD) (Z:Mem→Prop),S M'→(∀y M2,Yp y→Keeps q M' M2→S M2→N (.d y) M2)→g x (oH sl vs) M' fun sl2 M2=>tt sl2 M2 fun k M3=>if k=true then te sl2 M3 N else Z M3)
  (h: ∀ys M2,ys.length=items.length→(∀y∈ys,Yp y)→Keeps q M1 M2→S M2→nx (sl'.set i0 (some (.d (.list ys)))) M2): ∀p,M1 p=none→ ∃P:Nat→Mem→Prop,P 0 (bD M1 p (.lst []))∧
   (∀i x M,items[i]? =some x→P i M→g x (oH sl vs) M fun sl2 M2=>tt sl2 M2 fun k M3=>if k=true then te sl2 M3 fun y M4=>getL M4 p (fun acc=>acc.length<sizeLine∧P (i+1) (bD M4 p (.lst (acc++ [y]))))else P (i+1) M3)∧
   ∀M,P items.length M→getL M p fun xs=>fK (jQ xs) fun ds=>nx (sl'.set i0 (some (.d (.list ds)))) (cZ M p):=
 afd (R:=fun x M=>nx (sl'.set i0 (some x)) M) a0 Yp hl hS step h
def Gn (nums:List Int) (i z:Int):MO:= .lst [.d (.list (dI nums)),.d (.int i),.d (.int z)]
def dH (M:Mem) (p:Addr):Prop:= ∃nums i z,nums.length≤14∧M p=some (Gn nums i z)
theorem af9 (q:Addr):At q (fun M=>dH M q):=⟨fun _ _ e ⟨a,b,c,l,h⟩=>⟨a,b,c,l,e.trans h⟩,fun M ⟨_,_,_,_,h⟩ e=>by rw [h]at e;cases e⟩
end DL
namespace DL
open PySem PySem.Spec PyProof.Rows L2
section
variable {X:Cx} {pos:Pos}
def Ly:PyData→Key→Bool
 | .int i,.inl j=>decide (i=j)
 | .str x,.inr y=>decide (x=y)
 |_,_=>false
theorem Hj (k k':Key):Ly (keyD k) k'=decide (k=k'):=by
 cases k with
 |inl i=>
  cases k' with
  |inl j=>exact(decide_eq_decide.mpr ⟨fun h=>by rw [h],fun h=>Sum.inl.inj h⟩)
  |inr y=>exact(decide_eq_false (by simp)).symm
 |inr x=>
  cases k' with
  |inl j=>exact(decide_eq_false (by simp)).symm
  |inr y=>exact(decide_eq_decide.mpr ⟨fun h=>by rw [h],fun h=>Sum.inr.inj h⟩)
def qL (kds:List (PyData×PyData)) (k:Key):Option PyData:=(kds.find? fun p=>Ly p.1 k).map (·.2)
theorem jj.look {K:PySem.W.Frag} {H:Hp} {key:Key}: ∀{kvs:List (Key×V)} {kds:List (PyData×PyData)},jj K H kvs kds→(∃d v,qL kds key=some d∧valV kvs key=some v∧RD K H v d)∨(qL kds key=none∧valV kvs key=none)
 |_,_,.nil=> .inr ⟨rfl,rfl⟩
 |_,_,.cons (k:=k) h q=>by
  by_cases e:k=key
  ·refine .inl ⟨_,_,?_,?_,h⟩
   ·unfold qL
    rw [List.find?_cons_of_pos (by rw [Hj];exact decide_eq_true e)]
    rfl
   ·unfold valV
    rw [List.find?_cons_of_pos (by exact decide_eq_true e)]
    rfl
  ·have e1: ∀{kds:List (PyData×PyData)} {d:PyData},qL ((keyD k,d)::kds) key=qL kds key:=fun {kds d}=>by
    unfold qL
    rw [List.find?_cons_of_neg (by rw [Hj,decide_eq_false e];exact Bool.false_ne_true)]
   have e2: ∀{kvs:List (Key×V)} {v:V},valV ((k,v)::kvs) key=valV kvs key:=fun {kvs v}=>by
    unfold valV
    rw [List.find?_cons_of_neg (by rw [decide_eq_false e];exact Bool.false_ne_true)]
   rw [e1,e2]
   exact jj.look q
def keyOf:PyData→Option Key
 | .int i=>some (.inl i)
 | .str x=>some (.inr x)
 |_=>none
theorem acQ {K:PySem.W.Frag} {H:Hp} {v:V} {d:PyData} {k:Key} (r:RD K H v d) (e:keyOf d=some k):v=kV k:=by
 cases r<;>cases e<;>rfl
variable {a b:Expr} {ta tb:TD}
def Ba (neg:Bool):G2
 | .d y,.d (.dict kds),M,R=>fK (keyOf y) fun k=>R (.d (.bool (if neg then !(qL kds k).isSome else(qL kds k).isSome))) M
 |_,_,_,_=>False
end
theorem nW {P:Program} {w:World} {K:PySem.W.Frag} {mg:Str→Option Value} {base:Heap} {CX:CXT} {k:Nat} {f:Addr} {fd:FuncData} {ps:List Str} {sp:Sp} (h: ∀vs H Q E,¬sp vs H Q E):bM P w K mg base CX k f fd ps sp:=
 ⟨fun vs H Q E q=>(h vs H Q E q).elim,fun _ _ _ H _ _ vs Q E _ _ _ _ _ q=>(h vs H Q E q).elim⟩
end DL
namespace DL
open PySem PySem.Spec PyProof.Rows L2
section
variable {X:Cx} {pins:List (Addr×Obj)} {σ:L2.St} {H:Hp} {s:Shared} {a:Addr} {oe:Obj} {o:HO}
theorem ain {P:Program} {w:World} {h:Heap} {cls:Value} {d:Option Addr} {vs:Array Value} (e:h.get? a=some oe) (z:Zc cls d oe) (dd:oe.data= .fields vs):ObjOk P w H h a (wN cls d a):=
 ⟨⟨oe,vs,e,z,dd⟩,⟨oe,e⟩,fun h1 h2 ⟨oe,vs,e,r⟩ k=>⟨oe,vs,k oe e,r⟩⟩
theorem track (I:Inv X pins σ H s) (hn:H a=none) (n0:X.s_0.heap.get? a=none) (nl:a≠X.env.locals) (nc: ∀x c,X.env.cells.lookup x=some c→c≠a) (np: ∀p∈X.pn++pins,p.1≠a) (ok:ObjOk X.prog X.w (upd H a o) s.heap a o):
  Inv X pins σ (upd H a o) s:=by
 have z0: ∀{b:Addr} {u:Obj},X.s_0.heap.get? b=some u→b≠a:=fun {b u} e q=>by subst q;rw [n0]at e;cases e
 have zs: ∀{b:Addr} {u:HO},H b=some u→b≠a:=fun {b u} e q=>by subst q;rw [hn]at e;cases e
 have up: ∀{b:Addr},b≠a→upd H a o b=H b:=fun {b} q=>upd_ne q
 refine⟨I.ok,I.os,I.bare,⟨I.base.keep,I.base.slot,fun b u e n q=> ?_,I.base.there,fun b xs e=> ?_,fun b u v e=> ?_,fun b ps e=> ?_⟩,I.loc,I.cell,?_,fun x c e=> ?_,fun p hp=> ?_,fun b u e=> ?_,I.len⟩
 ·rw [up (z0 e)];exact I.base.free b u e n q
 ·have:=I.base.tups b xs e
  rw [up (zs this)];exact this
 ·have:=I.base.frzs b u v e
  rw [up (zs this)];exact this
 ·obtain⟨m,q⟩:=I.base.tbls b ps e
  exact⟨m,by rw [up (zs q)];exact q⟩
 ·rw [up (fun q=>nl q.symm)];exact I.free
 ·rw [up (nc x c e)];exact I.freeC x c e
 ·obtain⟨p1,p2,p3,p4,p5⟩:=I.pin p hp
  exact⟨p1,by rw [up (np p hp)];exact p2,p3,p4,p5⟩
 ·by_cases hb:b=a
  ·subst hb
   rw [upd_same]at e
   cases e
   exact ok
  ·rw [up hb]at e
   exact(I.hok b u e).stay (fun _ _ _ q=>q) (fun c q=>by rw [up (zs q)];exact q) fun c xs q=>by rw [up (zs q)];exact q
def TQ (K:PySem.W.Frag) (c:Value) (i j:Nat) (D:Ends):WX:=fun cls d σ H=>
 PySem.W.exmOne K cls c=some true∧ ∀a,H a=none→D.nx (((σ.set i (some (.ref a))).set j (some (.ref a))).set i none) (upd H a (wN cls d a))
theorem agl {pn':List (Addr×Obj)} {q:Addr×Obj} (S:Inv (X.suite a (q::(X.pn++pins))) pn' σ H s) (ok:X.Ok):Inv X (q::pins) σ H s:=
 ⟨ok,S.os,S.bare,S.base,S.loc,S.cell,S.free,S.freeC,fun p hp=>S.pin p (by
  rcases List.mem_append.mp hp with z|z
  ·exact List.mem_append_left _ (List.mem_cons_of_mem _ (List.mem_append_left _ z))
  ·rcases List.mem_cons.mp z with z|z
   ·rw [z];exact List.mem_append_left _ List.mem_cons_self
   ·exact List.mem_append_left _ (List.mem_cons_of_mem _ (List.mem_append_right _ z))),S.hok,S.len⟩
theorem afF {q:Addr×Obj} (I:Inv X (q::pins) σ H s):Inv X pins σ H s:=
 ⟨I.ok,I.os,I.bare,I.base,I.loc,I.cell,I.free,I.freeC,fun p hp=>I.pin p (by
  rcases List.mem_append.mp hp with z|z
  ·exact List.mem_append_left _ z
  ·exact List.mem_append_right _ (List.mem_cons_of_mem _ z)),I.hok,I.len⟩
theorem agS {M:Model} {A:Around} {E:Value→Shared→Prop} {i:Nat} {n:Str} {pos:Pos} {cls:Value} {d:Option Addr} {vs:Array Value} {Q:Shared→Prop} (J:Inv X ((a,oe)::pins) σ H s) (n0:X.s_0.heap.get? a=none) (hz:Zc cls d oe) (hd:oe.data= .fields vs) (nP: ∀p∈X.pn++pins,p.1≠a)
  (nC: ∀x c,X.env.cells.lookup x=some c→c≠a) (hN:X.N.Nodup) (hi:X.N[i]? =some n) (hl:X.env.kindOf n=some .local) (h: ∀s',Inv X pins (σ.set i none) (upd H a (wN cls d a)) s'→Q s'):
  wpAny M A (do bindName X.env n .none;unbindBehindTheSuite X.env n pos) (fun _ s'=>Q s') E s:=
 gone_ok J hN hi hl fun s' J'=>by
  obtain⟨e1,e2,e3,_⟩:=J'.pin (a,oe) (List.mem_append_right _ List.mem_cons_self)
  exact h s' (track (afF J') e2 n0 e3 nC nP (ain e1 hz hd))
theorem aij {B:Heap} {l:List Env} {h:Heap} {Z:Obj→Prop} (I:Inv X pins σ H s) (nb: ∀b o,s.heap.get? b=some o→b∉frs X.stack→B.get? b=some o) (fl:HandSPX.FlyingZ B X.stack a Z h):
  a∉frs X.stack∧s.heap.get? a=none:=by
 obtain⟨_,k2,k3,oe,vs,_,_,_,he,_,hd,_⟩:=fl
 have nf:a∉frs X.stack:=fun hm=>by
  obtain⟨_,o',e',hnf⟩:=k3.mem hm
  rw [he]at e'
  cases e'
  exact hnf _ hd
 refine⟨nf,?_⟩
 cases e:s.heap.get? a with
 |none=>rfl
 |some o=>
  have:=nb a o e nf
  rw [k2]at this
  cases this
theorem aed (I:Inv X pins σ H s) (hex:X.ex= []) (na:s.heap.get? a=none):X.s_0.heap.get? a=none∧(∀p∈X.pn++pins,p.1≠a)∧(∀x c,X.env.cells.lookup x=some c→c≠a)∧a≠X.env.locals:=by
 refine⟨?_,fun p hp q=> ?_,fun x c e q=> ?_,fun q=> ?_⟩
 ·cases e:X.s_0.heap.get? a with
  |none=>rfl
  |some o=>
   obtain⟨o',e'⟩:=I.base.there a o e (by rw [hex];exact List.not_mem_nil)
   rw [na]at e'
   cases e'
 ·have:=(I.pin p hp).1
  rw [q,na]at this
  cases this
 ·obtain⟨v,o,e',_⟩:=I.cell x c e
  rw [q,na]at e'
  cases e'
 ·obtain⟨m,⟨o,es,ep,ho,_⟩,_⟩:=I.loc
  rw [←q,na]at ho
  cases ho
variable {x n m:Str} {c:Value} {i j:Nat} {body:List Stmt} {np mp np2 ap pos pos':Pos} {tb:WX→TS}
theorem aeo (hs:X.stack=X.env::X.outer) (hf:X.env.frame=some X.env.locals) (hex:X.ex= []) (hN:X.N.Nodup) (hi:X.N[i]? =some n) (hj:X.N[j]? =some m) (hln:X.env.kindOf n=some .local) (hlm:X.env.kindOf m=some .local) (hc:Names X x c)
  (hb: ∀(W:WX) (pn:List (Addr×Obj)) (xe:Value→Shared→Prop),Takes (X.tr pn xe) W→PassesOwn (model X.prog X.w) X.A X.env xe→PSs (X.tr pn xe) body (tb W))
  (hsu: ∀(a:Addr) (oe:Obj) (pn:List (Addr×Obj)),PSs (X.suite a ((a,oe)::pn)) [.Assign [.Name m mp] (.Name n np2) ap] (fun D σ H=> ∃v,σ[i]? =some (some v)∧D.nx (σ.set j (some v)) H)):
  PS X (.Try body [.ExceptHandler (some (.Name x np)) (some n) [.Assign [.Name m mp] (.Name n np2) ap] pos'] [] [] pos) (fun D σ H=>tb (TQ X.K c i j D) D σ H):=by
 refine⟨fun pins s σ H D I h=> ?_⟩
 have ok:=I.ok
 have fr2:X.A.frames=some (X.env::X.outer):=ok.frames.trans (congrArg some hs)
 refine wpAny_Try_except ?_
 refine wpAny_mono ((hb (TQ X.K c i j D) (X.pn++pins) (fun e s₁=>wpAny (model X.prog X.w) X.A (noteFrame e X.env) (fun _ s₂=>wpAny (model X.prog X.w) X.A (setFlight e none) (fun _ s₃=>
   wpAny (model X.prog X.w) X.A (handleBy e X.env [.ExceptHandler (some (.Name x np)) (some n) [.Assign [.Name m mp] (.Name n np2) ap] pos']) (SP X pins D) X.xe s₃) X.xe s₂) X.xe s₁) (fun u s' air=> ?_) PassesOwn.looking).run [] s σ H D (I.toTry _) h) (fun f s1 q=> ?_) (fun _ _ q=>q)
 ·obtain⟨a,B,sI,aoz,σ',H',cls,d,rfl,J0,nb,up,sky,na,os,ag,eb,yes⟩:=air
  have J:Inv X pins σ' H' sI:=J0.ofTry ok
  have sky2:Sky B (X.env::X.outer) a (Zc cls d) X.env.locals s'.heap:=hs▸sky
  refine Sky.land (A:=X.A) Zc.steady fr2 hf sky2 fun h3 fl3 up3=> ?_
  obtain⟨nfr,nI⟩:=aij (l:= []) J nb (show HandSPX.FlyingZ B X.stack a (Zc cls d) h3 by rw [hs];exact fl3)
  obtain⟨n0,nP,nC,nL⟩:=aed J hex nI
  have nF:a∉X.fs:=fun hm=>by
   obtain⟨e,he,q⟩:=List.mem_filterMap.mp hm
   exact nfr (by rw [hs];exact List.mem_filterMap.mpr ⟨e,List.mem_cons_of_mem _ he,q⟩)
  have J3:Inv X pins σ' H' {s' with heap:=h3}:=J.landed nb fl3.1 (up.trans up3) os ag
  obtain⟨o3,v3,g3,z3,d3⟩:=fl3.there
  have S3:=J3.suite g3 d3 na nL nF
  refine wpAny_handleBy_cons (codeAny_handlers_test ?_) (by intro q;cases q)
  have kind:PySem.W.Looks (model X.prog X.w) h3 (typeOf (.ref a)) cls:=fun A Q E s k q=>wpAny_typeOf_ref (k _ _ g3) (by rw [z3.1];exact q)
  have says:=PySem.W.exm_one (M:=model X.prog X.w) (J3.kIn) kind eb
  have named: ∀{Q:Value→Shared→Prop} {E:Value→Shared→Prop},Q c {s' with heap:=h3}→wpAny (model X.prog X.w) (X.A.mark (some (.ref a))) (eval (.Name x np) X.env) Q E {s' with heap:=h3}:=fun {Q E} q=>by
   rcases hc with⟨c1,c2,c3|⟨c3,c4,c5⟩⟩
   ·exact ld_glob (X:=X.suite a ((a,o3)::(X.pn++pins))) S3 c1 c3 q c2
   ·exact ld_blt (X:=X.suite a ((a,o3)::(X.pn++pins))) S3 c1 c3 c4 q c5 c2
  refine named (says.here ?_)
  refine codeAny_handlers_suite_as (HandSPX.lands_againZ fl3 fun h4 fl4 up4=> ?_)
  obtain⟨o4,v4,g4,z4,d4⟩:=fl4.there
  have S4:=(J.landed (s':={s' with heap:=h4}) nb fl4.1 ((up.trans up3).trans up4) os ag).suite g4 d4 na nL nF
  refine store_ok (X:=X.suite a ((a,o4)::(X.pn++pins))) (v:= .ref a) S4 hN hi (.inl hln) rfl (fun s5 S5=> ?_) (.inr hln)
  have hlt:i<σ'.length:=by rw [J.len];exact(List.getElem?_eq_some_iff.mp hi).1
  refine wpAny_mono ((hsu a o4 (X.pn++pins)).run [] s5 _ H' {nx:=fun σ6 H6=>σ6=(σ'.set i (some (.ref a))).set j (some (.ref a))∧H6=H',rt:=fun _ _=>False} S5 ⟨.ref a,List.getElem?_set_self hlt,rfl,rfl⟩) (fun f s6 q=> ?_) (fun _ _ z=>False.elim z)
  cases f with
  |next=>
   obtain⟨σ6,H6,S6,e1,e2⟩:=q
   subst e1 e2
   exact agS (agl S6 ok) n0 z4 d4 nP nC hN hi hln fun s7 J7=>⟨_,_,J7,yes a na⟩
  |brk=>obtain⟨_,_,_,q⟩:=q;exact q.elim
  |cont=>obtain⟨_,_,_,q⟩:=q;exact q.elim
  |ret u=>obtain⟨_,_,_,_,_,q⟩:=q;exact q.elim
 ·cases f with
  |next=>obtain⟨σ1,H1,J1,q1⟩:=q;exact wpAny_execs_nil ⟨σ1,H1,J1.ofTry ok,q1⟩
  |brk=>obtain⟨σ1,H1,J1,q1⟩:=q;exact⟨σ1,H1,J1.ofTry ok,q1⟩
  |cont=>obtain⟨σ1,H1,J1,q1⟩:=q;exact⟨σ1,H1,J1.ofTry ok,q1⟩
  |ret u=>obtain⟨v,σ1,H1,J1,r1,q1⟩:=q;exact⟨v,σ1,H1,J1.ofTry ok,r1,q1⟩
end
end DL
namespace DL
open PySem PySem.Spec PyProof.Rows L2
def CQ:Bool→Heap→Addr→Addr→Nat→Prop
 |true,h,it,a,i=>h.IsTupleIter it a i
 |false,h,it,a,i=>h.IsListIter it a i
def Bg:Bool→Heap→Addr→Array Value→Prop
 |true,h,a,its=>h.IsTuple a its
 |false,h,a,its=>h.IsList a its
theorem CQ.at {t:Bool} {h h':Heap} {it a:Addr} {i:Nat} (x:CQ t h it a i) (k: ∀o,h.get? it=some o→h'.get? it=some o):CQ t h' it a i:=by
 cases t
 ·exact Heap.IsListIter.at x k
 ·exact Heap.IsTupleIter.at x k
theorem CQ.obj {t:Bool} {h:Heap} {it a:Addr} {i:Nat} (x:CQ t h it a i): ∃o,h.get? it=some o∧ ∀v,o.data≠ .cell v:=by
 cases t
 ·obtain⟨o,e,_,d⟩:=x
  exact⟨o,e,fun v q=>by rw [d]at q;cases q⟩
 ·obtain⟨o,e,_,d⟩:=x
  exact⟨o,e,fun v q=>by rw [d]at q;cases q⟩
end DL
namespace DL
open PySem PySem.Spec PyProof.Rows L2
theorem Bg.at {t:Bool} {h h':Heap} {a:Addr} {its:Array Value} (x:Bg t h a its) (k: ∀o,h.get? a=some o→h'.get? a=some o):Bg t h' a its:=by
 cases t
 ·exact Heap.IsList.at x k
 ·exact Heap.IsTuple.at x k
theorem Bg.obj {t:Bool} {h:Heap} {a:Addr} {its:Array Value} (x:Bg t h a its): ∃o,h.get? a=some o:=by
 cases t
 ·obtain⟨o,e,_⟩:=x
  exact⟨o,e⟩
 ·obtain⟨o,e,_⟩:=x
  exact⟨o,e⟩
end DL
namespace DL
open PySem PySem.Spec PyProof.Rows L2
section
variable {X:Cx}
def putD (kvs:List (Key×DV)) (k:Key) (v:DV):List (Key×DV):=
 if (kvs.any fun kv=>decide (kv.1=k))=true then kvs.map (fun kv=>if kv.1=k then(kv.1,v)else kv)else kvs++ [(k,v)]
theorem dF.any {K:PySem.W.Frag} {H:Hp} (k:Key): ∀{vs:List (Key×V)} {xs:List (Key×DV)},dF K H vs xs→(vs.any fun kv=>decide (kv.1=k))=(xs.any fun kv=>decide (kv.1=k))
 |_,_,.nil=>rfl
 |_,_,.cons h t=>by rw [List.any_cons,List.any_cons,dF.any k t,h.1]
theorem dF.rep {K:PySem.W.Frag} {H:Hp} {k:Key} {v:V} {x:DV} (r:RV K H v x): ∀{vs:List (Key×V)} {xs:List (Key×DV)},dF K H vs xs→dF K H (vs.map fun kv=>if kv.1=k then(kv.1,v)else kv) (xs.map fun kv=>if kv.1=k then(kv.1,x)else kv)
 |_,_,.nil=> .nil
 |_,_,.cons (a:=p) (b:=q) h t=>by
  rw [List.map_cons,List.map_cons]
  refine .cons ?_ (dF.rep r t)
  by_cases e:p.1=k
  ·rw [if_pos e,if_pos (h.1▸e)]
   exact⟨h.1,r⟩
  ·rw [if_neg e,if_neg (h.1▸e)]
   exact h
theorem dF.append {K:PySem.W.Frag} {H:Hp}: ∀{vs ws:List (Key×V)} {xs ys:List (Key×DV)},dF K H vs xs→dF K H ws ys→dF K H (vs++ws) (xs++ys)
 |_,_,_,_,.nil,s=>s
 |_,_,_,_,.cons h t,s=> .cons h (dF.append t s)
theorem dF.put {K:PySem.W.Frag} {H:Hp} {k:Key} {v:V} {x:DV} (r:RV K H v x) {vs:List (Key×V)} {xs:List (Key×DV)} (h:dF K H vs xs):dF K H (putK vs k v) (putD xs k x):=by
 unfold putK putD
 rw [dF.any k h]
 split
 ·exact dF.rep r h
 ·exact dF.append h (.cons ⟨rfl,r⟩ .nil)
theorem dF.len {K:PySem.W.Frag} {H:Hp} {vs:List (Key×V)} {xs:List (Key×DV)} (h:dF K H vs xs):vs.length=xs.length:=Paired.length h
def keyV:DV→Option Key
 | .d (.int i)=>some (.inl i)
 | .d (.str x)=>some (.inr x)
 |_=>none
theorem Ep {K:PySem.W.Frag} {H:Hp} {v:V} {x:DV} {k:Key} (r:RV K H v x) (e:keyV x=some k):v=kV k:=by
 cases x with
 |d y=>cases y<;>cases e<;>cases r<;>rfl
 |_=>cases e
def rG:List (Key×DV)→Option (List (PyData×PyData))
 | []=>some []
 |(k,.d x)::r=>(rG r).map ((keyD k,x):: ·)
 |_=>none
theorem Ue {K:PySem.W.Frag} {H:Hp}: ∀{vs:List (Key×V)} {xs:List (Key×DV)} {kds:List (PyData×PyData)},dF K H vs xs→rG xs=some kds→jj K H vs kds
 |_,_,_,.nil,e=>by cases e;exact .nil
 |(k,v)::vs,(k',x)::xs,kds,.cons h t,e=>by
  cases x with
  |d x=>
   unfold rG at e
   cases ea:rG xs with
   |none=>rw [ea]at e;cases e
   |some q=>
    rw [ea]at e
    cases e
    have hk:k=k':=h.1
    subst hk
    exact .cons h.2 (Ue t ea)
  |_=>cases e
def Ie (wi:lG) (g:jh) (tt:fZ) (tk tv:TD) (vs:List Nat):TD:=fun sl M R=>wi sl M fun items M1=> ∀p,M1 p=none→ ∃P:Nat→Mem→Prop,P 0 (bD M1 p (.dk []))∧
 (∀i x M,items[i]? =some x→P i M→g x (oH sl vs) M fun sl2 M2=>tt sl2 M2 fun k M3=>if k=true then tk sl2 M3 fun y M4=>tv sl2 M4 fun z M5=>fK (keyV y) fun key=>getD M5 p (fun acc=>acc.length<sizeLine∧P (i+1) (bD M5 p (.dk (putD acc key z))))else P (i+1) M3)∧
 ∀M,P items.length M→getD M p fun kvs=>fK (rG kvs) fun kds=>R (.d (.dict kds)) (cZ M p)
theorem Ur {K:PySem.W.Frag} {H:Hp} {M:Mem} {p:Addr} {kvs:List (Key×DV)} {kds:List (PyData×PyData)} (rm:cD K H M) (e:M p=some (.dk kvs)) (ek:rG kvs=some kds):RD K (hide H (cZ M p)) (.ref p) (.dict kds):=by
 obtain⟨vs,hv,rv⟩:=rm p _ e
 have ld:Le H M H (cZ M p):=v7 (K:=K)
 exact .dct (oE hv CN) (jj.sub ld (Ue rv ek))
section
variable {te tk tv:TD}
theorem ado {wi:lG} {ss vs:List Nat} {g:jh} {tt:fZ} {σ:L2.St} {H:Hp} {Q:VK} (sub: ∀j∈ss,j∈vs) (h:iD X.K (Ie wi g tt tk tv vs) σ H Q):
  tDc (Hw X.K wi) (G5 X.K ss g) (liftT X.K tt) (iD X.K tk) (iD X.K tv) vs σ H Q:=by
 obtain⟨sl,M,R,hs,hm,ht,k⟩:=h
 refine⟨sl,M,_,hs,hm,ht,fun items M1 h1 J H1 l1 m1 it D nD=> ?_⟩
 obtain⟨P,p0,step,fin⟩:=h1 D (oN m1 nD)
 refine⟨fun i m H'=>m=items.length-i∧i≤items.length∧ ∃M',cD X.K H' M'∧Le H1 M1 H' M'∧P i M',⟨_,rfl,Nat.zero_le _,_,xH (mo:= .dk []) m1 nD ⟨[],upd_same,.nil⟩,oF nD,p0⟩,?_⟩
 rintro i m H' ⟨rfl,hi,M',rm,le,w⟩
 obtain⟨go,stop⟩:=it H' M' le rm
 by_cases hlt:i<items.length
 ·obtain⟨g1,y1⟩:=go i hlt
  refine .inr ⟨g1,fun H2=> ∃M2,cD X.K H2 M2∧Le H1 M1 H2 M2∧P (i+1) M2,fun H2 h=>⟨_,by omega,rfl,hlt,h⟩,fun v H2 y=> ?_⟩
  obtain⟨ly,my,x,ex,rx⟩:=y1 v H2 y
  have rs:fj X.K (hide H2 M') (L2.wipe σ vs) (oH sl vs):=(hs.sub (l1.trans (le.trans ly))).wipe vs
  refine⟨x,_,M',_,rs,my,rx,step i x M' ex w,fun sl2 M2 h2 σ2 H3 l3 m3 r3 len fr=>⟨Ke len fr sub,sl2,M2,_,r3,m3,h2,fun kk M3 h3 H4 l4 m4=> ?_⟩⟩
  have lt:=le.trans (ly.trans (l3.trans l4))
  cases kk with
  |false=>exact⟨M3,m4,lt,h3⟩
  |true=>
   refine⟨sl2,M3,_,r3.sub l4,m4,h3,fun yv M5 h5 u H5 l5 m5 r5=>⟨sl2,M5,_,(r3.sub l4).sub l5,m5,h5,fun zv M6 h6 u6 H6 l6 m6 r6=> ?_⟩⟩
   obtain⟨key,ek,h6⟩:=iK h6
   obtain⟨acc,ea,h6⟩:=Bf h6
   obtain⟨av,ha,ra⟩:=m6 D _ ea
   exact⟨av,key,Ep (RV.sub l6 r5) ek,ha,by rw [dF.len ra];exact h6.1,_,uw (mo:= .dk (putD acc key zv)) m6 ea ⟨_,upd_same,dF.put r6 ra⟩,((lt.trans l5).trans l6).trans (k_ ea),h6.2⟩
 ·have e:i=items.length:=by omega
  subst e
  obtain⟨kvs,ex,hf⟩:=Bf (fin M' w)
  obtain⟨kds,ed,hf2⟩:=iK hf
  exact .inl ⟨stop,k _ _ hf2 _ _ (l1.trans (le.trans (v7 (K:=X.K)))) (FJ rm) (Ur rm ex ed)⟩
theorem acK {kx vx tg iter:Expr} {ifs:List Expr} {scope:Scope} {own:List (Str×Nat)} {pos:Pos} {wi:lG} {ss:List Nat} {g:jh} {tt:fZ} (hc:X.calm=true) (hN:X.N.Nodup) (hi:DI X tg iter wi) (ok:BlkOk X.N X.env.scope scope own)
  (hg: ∀(s:Shared) (H:Hp) (C:Addr) (cl:List (Str×Addr)) (fp:List Addr),DG (X.blk s H scope (compEnvC scope cl C X.env) fp) tg ss g)
  (ht: ∀(s:Shared) (H:Hp) (C:Addr) (cl:List (Str×Addr)) (fp:List Addr),Ge (X.blk s H scope (compEnvC scope cl C X.env) fp) ifs tt)
  (hk: ∀(s:Shared) (H:Hp) (C:Addr) (cl:List (Str×Addr)) (fp:List Addr),DE (X.blk s H scope (compEnvC scope cl C X.env) fp) kx tk)
  (he: ∀(s:Shared) (H:Hp) (C:Addr) (cl:List (Str×Addr)) (fp:List Addr),DE (X.blk s H scope (compEnvC scope cl C X.env) fp) vx tv)
  (sub: ∀j∈ss,j∈own.map (·.2)) (hs: ∀x,foldedSetIterable iter X.env x=pure x:=by intro _;rfl):
  DE X (.DictComp kx vx [⟨tg,iter,ifs,0⟩] scope pos) (Ie wi g tt tk tv (own.map (·.2))):=
 PE.imp (pe_dc hc hN hi ok hg ht hk he hs) fun _ _ _ h=>ado sub h
end
def Ij:List (TD×TD)→Slots→Mem→(List (DV×DV)→Mem→Prop)→Prop
 | [],_,M,R=>R [] M
 |(tk,tv)::r,sl,M,R=>tk sl M fun x M1=>tv sl M1 fun y M2=>Ij r sl M2 fun ps M3=>R ((x,y)::ps) M3
theorem Kw {σ:L2.St} {sl:Slots}: ∀(trs:List (TD×TD)) {H:Hp} {M:Mem} {R:List (DV×DV)→Mem→Prop} {Q:List (V×V)→Hp→Prop},fj X.K (hide H M) σ sl→cD X.K H M→Ij trs sl M R→
  (∀ps M',R ps M'→ ∀vs H',Le H M H' M'→cD X.K H' M'→Paired (fun(v:V×V) (x:DV×DV)=>RV X.K (hide H' M') v.1 x.1∧RV X.K (hide H' M') v.2 x.2) vs ps→Q vs H')→tPairs (trs.map fun t=>(iD X.K t.1,iD X.K t.2)) σ H Q
 | [],H,M,R,Q,hs,hm,ht,k=>k [] M ht [] H (Le.refl _ _) hm .nil
 |(tk,tv)::r,H,M,R,Q,hs,hm,ht,k=>⟨sl,M,_,hs,hm,ht,fun x M1 h1 v H1 l1 m1 r1=>⟨sl,M1,_,hs.sub l1,m1,h1,fun y M2 h2 u H2 l2 m2 r2=>Kw r (hs.sub (l1.trans l2)) m2 h2 fun ps M3 h3 vs H3 l3 m3 r3=>
   k _ M3 h3 _ H3 ((l1.trans l2).trans l3) m3 (.cons ⟨RV.sub (l2.trans l3) r1,RV.sub l3 r2⟩ r3)⟩⟩
def BL:List (DV×DV)→Option (List (Key×DV))
 | []=>some []
 |(x,y)::r=>match keyV x,BL r with
  |some k,some q=>some ((k,y)::q)
  |_,_=>none
def qD (kvs more:List (Key×DV)):List (Key×DV):=more.foldl (fun acc kv=>putD acc kv.1 kv.2) kvs
theorem dF.merge {K:PySem.W.Frag} {H:Hp}: ∀{ws:List (Key×V)} {ys:List (Key×DV)} {vs:List (Key×V)} {xs:List (Key×DV)},dF K H ws ys→dF K H vs xs→dF K H (mergeK vs ws) (qD xs ys)
 |_,_,_,_,.nil,s=>s
 |(k,v)::ws,(k',y)::ys,vs,xs,.cons h t,s=>by
  have hk:k=k':=h.1
  subst hk
  exact dF.merge (vs:=putK vs k v) (xs:=putD xs k y) t (dF.put h.2 s)
theorem JQ {K:PySem.W.Frag} {H:Hp}: ∀{vs:List (V×V)} {ps:List (DV×DV)} {kvs:List (Key×DV)},Paired (fun(v:V×V) (x:DV×DV)=>RV K H v.1 x.1∧RV K H v.2 x.2) vs ps→BL ps=some kvs→ ∃kws,vs=kws.map (fun kv=>(kV kv.1,kv.2))∧dF K H kws kvs
 |_,_,_,.nil,e=>by cases e;exact⟨[],rfl,.nil⟩
 |v::vs,(x,y)::ps,kvs,.cons h t,e=>by
  unfold BL at e
  split at e
  ·rename_i k q ek eq
   cases e
   obtain⟨kws,e1,r⟩:=JQ t eq
   refine⟨(k,v.2)::kws,?_,.cons ⟨rfl,h.2⟩ r⟩
   rw [List.map_cons,e1,←Ep h.1 ek]
  ·cases e
def Wf (trs:List (TD×TD)):TD:=fun sl M R=> ∀p,M p=none→Ij trs sl (bD M p (.dk [])) fun ps M2=>M2 p=some (.dk [])∧fK (BL ps) fun kvs=>kvs.length≤15∧fK (rG (qD [] kvs)) fun kds=>R (.d (.dict kds)) (cZ M2 p)
theorem ahZ {M:Mem} {q:Addr} {o:MO}:cZ (bD M q o) q=cZ M q:=by
 funext a
 unfold cZ bD
 by_cases h:a=q
 ·rw [if_pos h,if_pos h]
 ·rw [if_neg h,if_neg h,if_neg h]
theorem ae_ {keys:List (Option Expr)} {values:List Expr} {trs:List (TD×TD)} {pos:Pos} (h:PPs X pos keys values (trs.map fun t=>(iD X.K t.1,iD X.K t.2))) (hall:keys.all (·.isSome)=true:=by rfl) (hl:keys.length=values.length:=by rfl) (h0:keys≠ []:=by simp)
  (h15:keys.length≤15:=by decide):DE X (.Dict keys values pos) (Wf trs):=
 PE.imp (pe_disp h hall hl h0 h15) fun σ H Q ⟨sl,M,R,hs,hm,ht,k⟩=>fun p n=>by
  refine Kw trs (hs.sub (oF n)) (xH (mo:= .dk []) hm n ⟨[],upd_same,.nil⟩) (ht p (oN hm n)) fun ps M2 h2 vs H2 l2 m2 r2=> ?_
  obtain⟨ep,h2⟩:=h2
  obtain⟨kvs,ek,hl,h2⟩:=iK h2
  obtain⟨kds,ed,h2⟩:=iK h2
  obtain⟨kws,e1,rk⟩:=JQ r2 ek
  obtain⟨av,ha,ra⟩:=m2 p _ ep
  cases ra
  have rm:cD X.K (upd H2 p (.dK (mergeK [] kws))) (bD M2 p (.dk (qD [] kvs))):=uw m2 ep ⟨_,upd_same,dF.merge rk .nil⟩
  refine⟨ha,kws,e1,by rw [dF.len rk];exact hl,?_⟩
  have l3:Le H2 M2 (upd H2 p (.dK (mergeK [] kws))) (bD M2 p (.dk (qD [] kvs))):=k_ ep
  have h2':R (.d (.dict kds)) (cZ (bD M2 p (.dk (qD [] kvs))) p):=by rw [ahZ];exact h2
  exact k _ _ h2' _ _ ((oF n).trans ((l2.trans l3).trans (v7 (K:=X.K)))) (FJ rm) (Ur rm cY ed)
variable {a b c:Expr} {ta tb tc:TD} {pos:Pos}
def K6:DV→Mem→KD→Prop
 | .d (.list xs),M,R=>R (.d (.list xs.reverse)) M
 |_,_,_=>False
theorem cI.rev {K:PySem.W.Frag} {H:Hp}: ∀{vs:List V} {ds:List PyData},cI K H vs ds→cI K H vs.reverse ds.reverse
 |_,_,.nil=> .nil
 |_,_,.cons h t=>by
  rw [List.reverse_cons,List.reverse_cons]
  exact(cI.rev t).append (.cons h .nil)
theorem ac4 {j:Nat} {p1 p2 p3:Pos} (ha:DE X a ta):DE X (.Subscript a (.Slice none none (some (.UnaryOp .USub (.Constant (.int 1) j p1) p2)) p3) pos) (Ad K6 ta):=
 PE.imp (pe_revL ha) fun σ H Q ⟨sl,M,R,hs,hm,ht,k⟩=>⟨sl,M,_,hs,hm,ht,fun x M1 h1 v H1 l1 m1 r1=>by
  match x,h1 with
  | .d (.list xs),h1=>
   have r1':RD X.K (hide H1 M1) v (.list xs):=r1
   cases r1' with
   |lst q1 q2=>exact⟨_,_,rfl,SqL.of (d8 _ _ _ _ q1),fun p n=>uU (k.le l1) m1 n h1 (wU m1 n (cI.rev q2))⟩⟩
end
end DL
namespace DL
open PySem PySem.Spec PyProof.Rows L2
section
variable {X:Cx} {a b c e:Expr} {pos:Pos} {ta tb te:TD}
theorem ahb {K:PySem.W.Frag} {H:Hp} {M:Mem} {p:Addr} {ds:List PyData} (rm:cD K H M) (e:M p=some (.lst (ds.map DV.d))):RD K (hide H (cZ M p)) (.ref p) (.list ds):=by
 obtain⟨vs,hv,rv⟩:=rm p _ e
 have ld:Le H M H (cZ M p):=v7 (K:=K)
 exact .lst (oE hv CN) (cI.sub ld (bY.data rv))
def JR:GC
 | [.d x],M,R=>KC x M R
 | [.raw (.ref p)],M,R=>getL M p fun xs=>fK (jQ xs) fun ds=>KC (.list ds) M R
 |_,_,_=>False
theorem Ua {k:Nat} (hr:Room k X.A) (hgd:X.A.guards=some []):CallD X (.builtin "repr") JR:=by
 intro pins s σ H vs us Q I r hh
 obtain⟨xs,M,R,hm,rv,hg,k⟩:=hh
 match xs,hg with
 | [.d x],hg=>exact ah8 hr hgd pins s σ H vs us Q I r ⟨[.d x],M,R,hm,rv,hg,k⟩
 | [.raw (.ref p)],hg=>
  obtain⟨xs,e,hg2⟩:=oZ hg
  obtain⟨ds,ed,hg3⟩:=iK hg2
  have ed':=zf ed
  rw [ed']at e
  cases rv with
  |cons r1 r2=>
   cases r2
   cases r1
   cases r with
   |cons q1 q2=>
    cases q2
    obtain⟨h1,h2,h3,h4,hg⟩:=hg3
    have hu:=hr.un
    obtain⟨as,rd,hn⟩:=RD.readsI I (RD.sub (d8 _ _) (ahb hm e)) _ q1
    cases q1
    exact repr_of_reads' rd h1 (fun q=>hn (h4 q)) hgd (by omega) (fun _ _ e=>e) (fun h' u tk hk=>⟨.str _,H,I.kept hk,⟨_,rfl⟩,dJ k hm hg (.str _)⟩) h3
end
section
variable {ta tb tc te:TD} {tas:eY} {tA:fZ} {g:G2} {gc:GC} {D:fD} {sl:Slots} {M:Mem} {R:KD} {i:Nat} {x:DV} {a b:bK}
theorem bL (h:te sl M fun x M1=>D.nx (sl.set i (some x)) M1):aZ i te D sl M:=h
theorem cJ (h:te sl M D.rt):bO te D sl M:=h
theorem aO (h:ta sl M fun x M1=>tb sl M1 fun y M2=>g x y M2 R):aA g ta tb sl M R:=h
theorem aG (e:sl[i]? =some (some x)) (h:R x M):ao i sl M R:=by
 unfold ao
 rw [e]
 exact h
theorem aN (h:R x M):dC x sl M R:=h
theorem bQ (h:tas sl M fun xs M1=>gc xs M1 R):dCall gc tas sl M R:=h
theorem aJ {RA:KA} (h:te sl M fun x M1=>tas sl M1 fun xs M2=>RA (x::xs) M2):aj te tas sl M RA:=h
theorem aV {RA:KA} (h:RA [] M):aH sl M RA:=h
theorem dN (h:tA sl M fun k M1=>if k=true then a D sl M1 else b D sl M1):bZ tA a b D sl M:=h
theorem oG (h:tA sl M fun k M1=>if k=true then ta sl M1 R else tb sl M1 R):jY tA ta tb sl M R:=h
theorem bU {RB:KB} (h:te sl M fun x M1=>match x with| .d (.bool k)=>RB k M1|_=>False):dB te sl M RB:=h
theorem jL {RS:Slots→Mem→Prop} (h:RS (sl.set i (some x)) M):iT i x sl M RS:=h
theorem Yi {to:TD} (h:to sl M fun o M1=>match o with
 | .raw (.ref p)=>getL M1 p fun _=>te sl M1 fun x M2=>getL M2 p fun xs=>xs.length<sizeLine∧D.nx sl (bD M2 p (.lst (xs++ [x])))
 |_=>False):mZ to te D sl M:=h
end
end DL
namespace DL
open PySem PySem.Spec PyProof.Rows L2
structure dW (B k n:Nat) (d:PyData):Prop where
 ls:d.leavesShort B=true
 sh:d.showable=true
 pl:d.plain=true
 dp:d.depth≤k
 bk:d.bulk≤n
theorem dW.mono {B k n k' n':Nat} {d:PyData} (h:dW B k n d) (hk:k≤k') (hn:n≤n'):dW B k' n' d:=⟨h.ls,h.sh,h.pl,Nat.le_trans h.dp hk,Nat.le_trans h.bk hn⟩
theorem dW.ok {B k n:Nat} {d:PyData} (h:dW B k n d) (hB:8≤B:=by decide) (hk:k≤200:=by decide) (hn:(B+2)*n+B≤16777216:=by decide):WK d:=by
 refine⟨h.sh,Nat.le_trans h.dp hk,?_,fun q=>by rw [Vi _ h.pl]at q;cases q⟩
 have h1:=PyData.shown_le_bulk B hB d h.ls
 have h2:(B+2)*d.bulk≤(B+2)*n:=Nat.mul_le_mul_left _ h.bk
 rw [sizeLine_eq]
 omega
theorem dW.int {B b:Nat} {i:Int} (h:i.natAbs.log2<b) (hb:0<b:=by decide) (hB:b+1≤B:=by decide) (h2:b≤1920:=by decide):dW B 0 0 (.int i):=by
 refine⟨?_,?_,rfl,Nat.le_refl _,Nat.le_refl _⟩
 ·simp only [PyData.leavesShort,decide_eq_true_eq]
  unfold PyData.shown
  show(Str.ofString (toString i)).length≤B
  rw [PySem.ofString_length]
  exact Nat.le_trans (int_text_length_le hb h) hB
 ·simp [PyData.showable]
  omega
theorem dW.none {B:Nat}:dW B 0 0 .none:=⟨rfl,rfl,rfl,Nat.le_refl _,Nat.le_refl _⟩
theorem dW.bool {B:Nat} (b:Bool):dW B 0 0 (.bool b):=⟨rfl,rfl,rfl,Nat.le_refl _,Nat.le_refl _⟩
theorem dW.str {B n:Nat} {x:Str} (h:(x.cps.toList.all fun c=>decide (c<16^8))=true) (hl:x.length≤n):dW B 0 n (.str x):=by
 refine⟨?_,rfl,rfl,Nat.le_refl _,hl⟩
 simpa only [PyData.leavesShort]using h
theorem dW.all {B k n:Nat}: ∀{ds:List PyData},(∀d∈ds,dW B k n d)→PyData.leavesShortAll B ds=true∧PyData.showableAll ds=true∧PyData.plainAll ds=true∧PyData.depthAll ds≤k∧PyData.bulkAll ds≤ds.length*(n+1)
 | [],_=>⟨rfl,rfl,rfl,Nat.zero_le _,Nat.zero_le _⟩
 |d::ds,h=>by
  obtain⟨h1,h2,h3,h4,h5⟩:=dW.all (ds:=ds) fun x hx=>h x (List.mem_cons_of_mem _ hx)
  have hd:=h d List.mem_cons_self
  refine⟨?_,?_,?_,?_,?_⟩
  ·simp only [PyData.leavesShortAll,hd.ls,h1,Bool.and_self]
  ·simp only [PyData.showableAll,hd.sh,h2,Bool.and_self]
  ·simp only [PyData.plainAll,hd.pl,h3,Bool.and_self]
  ·simp only [PyData.depthAll]
   have:=hd.dp
   omega
  ·simp only [PyData.bulkAll,List.length_cons]
   have:=hd.bk
   rw [Nat.succ_mul]
   omega
theorem dW.tup {B k n m:Nat} {ds:List PyData} (h: ∀d∈ds,dW B k n d) (hl:ds.length≤m):dW B (k+1) (m*(n+1)) (.tuple ds):=by
 obtain⟨h1,h2,h3,h4,h5⟩:=dW.all h
 refine⟨by simpa only [PyData.leavesShort]using h1,by simpa only [PyData.showable]using h2,by simpa only [PyData.plain]using h3,?_,?_⟩
 ·simp only [PyData.depth]
  omega
 ·simp only [PyData.bulk]
  exact Nat.le_trans h5 (Nat.mul_le_mul_right _ hl)
theorem dW.lst {B k n m:Nat} {ds:List PyData} (h: ∀d∈ds,dW B k n d) (hl:ds.length≤m):dW B (k+1) (m*(n+1)) (.list ds):=by
 obtain⟨h1,h2,h3,h4,h5⟩:=dW.all h
 refine⟨by simpa only [PyData.leavesShort]using h1,by simpa only [PyData.showable]using h2,by simpa only [PyData.plain]using h3,?_,?_⟩
 ·simp only [PyData.depth]
  omega
 ·simp only [PyData.bulk]
  exact Nat.le_trans h5 (Nat.mul_le_mul_right _ hl)
theorem mem3 {P:PyData→Prop} {a b c:PyData} (ha:P a) (hb:P b) (hc:P c): ∀d∈ [a,b,c],P d:=fun d hd=>by
 simp only [List.mem_cons,List.not_mem_nil,or_false]at hd
 rcases hd with rfl|rfl|rfl
 ·exact ha
 ·exact hb
 ·exact hc
theorem take_snoc {α:Type} {l:List α} {i:Nat} {x:α} (h:l[i]? =some x):l.take (i+1)=l.take i++ [x]:=by rw [List.take_add_one,h];rfl
end DL
namespace DL
open PySem PySem.Spec PyProof.Rows L2
abbrev XR:=Str→List (Str×PyData)→Mem→Prop
abbrev XD:=Str→List (Str×PyData)→Slots→Mem→Prop
abbrev fV:=List DV→Mem→KD→XR→Prop
def ExcAt (K:PySem.W.Frag) (H0:Hp) (cls:Value) (d:Option Addr) (n:Str) (fs:List (Str×PyData)):Prop:= ∃C,cls= .ref C∧PySem.W.nsIn K mainGlobals n=some (some (.ref C))∧RF K H0 d fs
def KtX (K:PySem.W.Frag) (H:Hp) (M:Mem) (RX:XR) (E:XK):Prop:= ∀n fs M',RX n fs M'→ ∀cls d H',Le H M H' M'→cD K H' M'→ExcAt K (hide H' M') cls d n fs→E cls d H'
def gA (K:PySem.W.Frag) (sp:fV):Sp:=fun vs H Q E=> ∃xs M R RX,bY K (hide H M) vs xs∧cD K H M∧sp xs M R RX∧Kt K H M R Q∧KtX K H M RX E
def t_ (K:PySem.W.Frag) (W:WX) (Ex:XD):Prop:= ∀n fs sl M,Ex n fs sl M→ ∀cls d σ H,fj K (hide H M) σ sl→cD K H M→ExcAt K (hide H M) cls d n fs→W cls d σ H
def iY (c:Nat) (B:Hp) (sl:Slots):Prop:= ∃x,sl[c]? =some (some (.wb x B))
def jx (c:Nat) (B:Hp) (sl:Slots):Slots:=match sl[c]? with
 |some (some x)=>sl.set c (some (.wb x B))
 |_=>sl
def Lz (c:Nat) (sl:Slots):Slots:=match sl[c]? with
 |some (some (.wb x _))=>sl.set c (some x)
 |_=>sl
theorem Yn {α:Type} {l:List α} {i:Nat} {x:α} (h:l[i]? =some x):l.set i x=l:=by
 apply List.ext_getElem?
 intro j
 by_cases hj:i=j
 ·subst hj
  rw [List.getElem?_set_self (List.getElem?_eq_some_iff.mp h).1,h]
 ·rw [List.getElem?_set_ne hj]
theorem JH {K:PySem.W.Frag} {H:Hp} {σ:L2.St} {sl:Slots} (h:fj K H σ sl) (c:Nat):fj K H σ (jx c H sl):=by
 unfold jx
 split
 ·rename_i x e
  obtain⟨v,ev,rv⟩:=h.2 c x e
  have:=h.set c (v:=v) (x:= .wb x H) ⟨rv,Sub.refl _⟩
  rw [Yn ev]at this
  exact this
 ·exact h
theorem afe {K:PySem.W.Frag} {H:Hp} {σ:L2.St} {sl:Slots} (h:fj K H σ sl) (c:Nat):fj K H σ (Lz c sl):=by
 unfold Lz
 split
 ·rename_i x B e
  obtain⟨v,ev,rv⟩:=h.2 c _ e
  have:=h.set c (v:=v) (x:=x) rv.1
  rw [Yn ev]at this
  exact this
 ·exact h
theorem K_ {K:PySem.W.Frag} {H B:Hp} {σ:L2.St} {sl:Slots} {c:Nat} (h:fj K H σ sl) (w:iY c B sl):Sub B H:=by
 obtain⟨x,e⟩:=w
 obtain⟨v,_,rv⟩:=h.2 c _ e
 exact rv.2
section
variable {X:Cx} {pos:Pos}
def bV (i:Nat):TD:=fun sl M R=>match sl[i]? with
 |some (some (.wb x _))=>R x M
 |_=>False
theorem cM (i:Nat) {x:Str} (hN:X.N[i]? =some x:=by rfl) (hv:Vis X.env.scope x:=by first|exact Or.inl rfl|exact Or.inr (Or.inl rfl)|exact Or.inr (Or.inr rfl)) (hd:(x==("__debug__" :Str))=false:=by decide)
  (hcd:(x==("__classdict__" :Str))=false:=by decide):DE X (.Name x pos) (bV i):=
 PE.imp (pe_var hN hv hd hcd) fun σ H Q ⟨sl,M,R,hs,hm,ht,k⟩=>by
  unfold bV at ht
  split at ht
  ·rename_i x B e
   obtain⟨v,e1,r⟩:=hs.2 i _ e
   exact⟨v,e1,k x M ht v H (Le.refl _ _) hm r.1⟩
  ·exact ht.elim
theorem fL {sl:Slots} {M:Mem} {R:KD} {i:Nat} {x:DV} {B:Hp} (e:sl[i]? =some (some (.wb x B))) (h:R x M):bV i sl M R:=by
 unfold bV
 rw [e]
 exact h
end
section
variable {P:Program} {w:World} {K:PySem.W.Frag} {mg:Str→Option Value} {base:Heap}
theorem dw.dataX {x qual:Str} {st:Stmt} {dV:Value} {f:Addr} {fd:FuncData} {N ps:List Str} {k:Nat} {sp:fV} (F:dw K x qual st dV f fd) (S:FnScope N ps (defScope st)) (len: ∀xs M R RX,sp xs M R RX→xs.length=ps.length) (c:Nat) (t:XD→bK)
  (hbody: ∀(cdv:Value) (A:Around) (outer:List Env) (s:Shared) (H:Hp) (E:XK) (Ex:XD),A.guards=some []→Room k (A.deeper (envOfC qual (defScope st) s.heap.objs.size f cdv))→
   Takes (cxOf (L2.CX P w) P w K mg base N qual (defScope st) f cdv A outer s H E) (fun cls d _ H'=>E cls d H')→t_ K (fun cls d _ H'=>E cls d H') Ex→
   PassesOwn (model P w) (cxOf (L2.CX P w) P w K mg base N qual (defScope st) f cdv A outer s H E).A (cxOf (L2.CX P w) P w K mg base N qual (defScope st) f cdv A outer s H E).env (cxOf (L2.CX P w) P w K mg base N qual (defScope st) f cdv A outer s H E).xe→
   mK (cxOf (L2.CX P w) P w K mg base N qual (defScope st) f cdv A outer s H E) (defBody st) (t Ex))
  (pure: ∀xs M R RX,sp xs M R RX→ ∀B,t (fun n fs sl M'=>iY c B sl∧RX n fs M') {nx:=fun _ M'=>R (.d .none) M',rt:=R} (jx c B (dD N xs)) M):bM P w K mg base (L2.CX P w) (k+1) f fd ps (gA K sp):=by
 obtain⟨oc,od,kV,doc,pm,an,cdv,ct,osl,rfl,lk,hcd⟩:=F.ex
 refine Ey lk hcd S (fun vs H Q E ⟨xs,M,R,RX,rv,_,hs,_⟩=>(bY.len rv).trans (len xs M R RX hs)) fun A outer s H vs Q E hg hr ⟨xs,M,R,RX,rv,hm,hs,k,kx⟩=> ?_
 refine⟨_,hbody cdv A outer s H E (fun n fs sl M'=>iY c (hide H M) sl∧RX n fs M') hg hr (takes_of rfl rfl rfl rfl) ?_ (passes_of rfl),?_⟩
 ·rintro n fs sl M' ⟨wb,hx⟩ cls d σ' H' rs rm ea
  exact kx n fs M' hx cls d H' (K_ rs wb) rm ea
 ·exact⟨_,M,_,JH (GX N rv) c,hm,pure xs M R RX hs (hide H M),fun sl M' h σ' H' l m r=>k _ M' h _ H' l m .non,k,fun _ _ z=>z.elim,fun _ _ z=>z.elim⟩
structure DefX (P:Program) (w:World) (K:PySem.W.Frag) (mg:Str→Option Value) (base:Heap) (x:Str) (k:Nat) (sp:fV):Prop where
 ex: ∃(f:Addr) (fd:FuncData) (ps:List Str),bM P w K mg base (L2.CX P w) k f fd ps (gA K sp)∧mg x=some (.ref f)∧PySem.W.keepIn K (.ref f)=true∧Binds K fd ps []
end
section
variable {X:Cx} {CX:CXT} {k:Nat} {f:Addr} {fd:FuncData} {ps:List Str} {sp:Sp} {E:L2.St→XK} {x:Str} {p pos:Pos} {e:Expr} {es:List Expr} {t:TA}
theorem acV {pins:List (Addr×Obj)} {σ:L2.St} {H:Hp} {s:Shared} {Q:VK} {us:List Value} {vs:List V} (hgd:X.A.guards=some []) (F:bM X.prog X.w X.K X.mg X.base CX k f fd ps sp) (hr:Room k X.A) (hb:Binds X.K fd ps []) (hx:PassesAt CX X σ (E σ))
  (I:Inv X pins σ H s) (r:Vals vs us) (h:sp vs H Q (E σ)):wpAny (model X.prog X.w) X.A (call (.ref f) us) (EP X pins σ Q) X.xe s:=by
 have hl:(us++ []).length=ps.length:=by rw [List.append_nil,←r.length];exact F.len _ _ _ _ h
 have b:=hb s us I.kIn hl
 rw [List.append_nil]at b
 refine wpAny_call (codeAny_mono (F.run X.A X.stack s H ⟨us,[]⟩ us vs Q (E σ) hgd hr I.env0 b r h) ?_)
 intro r s' hq
 match r,hq with
 | .error e,hq=>exact hx pins H s e s' I hq
 | .ok (.ret u),hq=>exact I.after hq
theorem ac0 (hgd:X.A.guards=some []) (F:bM X.prog X.w X.K X.mg X.base CX k f fd ps sp) (hr:Room k X.A) (hg:Gl X x) (hm:X.mg x=some (.ref f)) (hk:PySem.W.keepIn X.K (.ref f)=true) (hb:Binds X.K fd ps []) (hx: ∀σ,PassesAt CX X σ (E σ))
  (ha:PA X (e::es) t) (hdb:(x==("__debug__" :Str))=false) (he:starEach (e::es) X.env=(false,eval e X.env)::starEach es X.env) (hpl:(backTo pos (starEach es X.env)).any (·.1)=false):
  PE X (.Call (.Name x p) (e::es) [] pos) (tCallS sp E t):=
 ⟨fun pins s σ H Q I h=>wpAny_Call_Name_kw (ld_glob I hg hm (PySem.W.callWith_K (h₀:=X.base) I.ok.mod.kin hk (thn (ha.run pos pins s σ H _ I h) fun us s1 ⟨vs,H1,I1,r,q⟩=>⟨I1.kIn,acV hgd F hr hb (hx σ) I1 r q⟩) he hpl) hdb)⟩
end
section
variable {X:Cx} {k:Nat} {sp:fV} {x:Str} {p pos:Pos} {e:Expr} {es:List Expr} {tas:eY} {W:WX} {Ex:XD}
def Cu (Ex:XD) (sp:fV) (tas:eY):TD:=fun sl M R=>tas sl M fun xs M1=>sp xs M1 R fun n fs M2=>Ex n fs sl M2
theorem DefX.de (D:DefX X.prog X.w X.K X.mg X.base x k sp) (tk:Takes X W) (xo:t_ X.K W Ex) (hgd:X.A.guards=some []) (hr:Room k X.A) (hg:Gl X x) (ha:DA X (e::es) tas) (hdb:(x==("__debug__" :Str))=false:=by decide) (he:starEach (e::es) X.env=(false,eval e X.env)::starEach es X.env:=by rfl)
  (hpl:(backTo pos (starEach es X.env)).any (·.1)=false:=by rfl):DE X (.Call (.Name x p) (e::es) [] pos) (Cu Ex sp tas):=by
 obtain⟨f,fd,ps,F,m,kp,hb⟩:=D.ex
 refine PE.imp (ac0 (E:=WE W) hgd F hr hg m kp hb (fun σ=>passAt tk σ) ha hdb he hpl) fun σ H Q ⟨sl,M,R,hs,hm,ht,k⟩=>⟨sl,M,_,hs,hm,ht,fun xs M1 h1 vs H1 l1 m1 r1=>⟨xs,M1,R,_,r1,m1,h1,k.le l1,?_⟩⟩
 exact fun n fs M2 hx cls d H2 l2 m2 ea=>xo n fs sl M2 hx cls d σ H2 (hs.sub (l1.trans l2)) m2 ea
structure Jw (K:PySem.W.Frag) (mg:Str→Option Value) (x:Str) (ns:List Str):Prop where
 ex: ∃C,mg x=some (.ref C)∧ ∀n∈ns,∀D,PySem.W.nsIn K mainGlobals n=some (some (.ref D))→PySem.W.exmOne K (.ref D) (.ref C)=some true
def Zo (ns:List Str) (i j:Nat) (tb:XD→bK):bK:=fun D sl M=>(∃x,sl[j]? =some (some x))∧ ∀B,tb (fun n fs sl2 M2=>iY j B sl2∧n∈ns∧D.nx ((sl2.set j (some (.err n fs))).set i none) M2) {D with nx:=fun sl2 M2=>D.nx (Lz j sl2) M2,bk:=fun _ _=>False,ct:=fun _ _=>False} (jx j B sl) M
theorem ahl {x n m:Str} {i j:Nat} {body:List Stmt} {np mp np2 ap pos pos':Pos} {ns:List Str} {tb:XD→bK} (F:Jw X.K X.mg x ns) (hgx:Gl X x) (hdx:(x==("__debug__" :Str))=false) (hs:X.stack=X.env::X.outer) (hf:X.env.frame=some X.env.locals) (hex:X.ex= []) (hN:X.N.Nodup) (hi:X.N[i]? =some n) (hj:X.N[j]? =some m) (hij:i≠j)
  (hln:X.env.kindOf n=some .local) (hlm:X.env.kindOf m=some .local)
  (hb: ∀(Ex:XD) (W:WX) (pn:List (Addr×Obj)) (xe:Value→Shared→Prop),Takes (X.tr pn xe) W→t_ X.K W Ex→PassesOwn (model X.prog X.w) X.A X.env xe→mK (X.tr pn xe) body (tb Ex))
  (hsu: ∀(a:Addr) (oe:Obj) (pn:List (Addr×Obj)),PSs (X.suite a ((a,oe)::pn)) [.Assign [.Name m mp] (.Name n np2) ap] (fun D σ H=> ∃v,σ[i]? =some (some v)∧D.nx (σ.set j (some v)) H)):
  DS X (.Try body [.ExceptHandler (some (.Name x np)) (some n) [.Assign [.Name m mp] (.Name n np2) ap] pos'] [] [] pos) (Zo ns i j tb):=by
 obtain⟨C,gC,cC⟩:=F.ex
 refine PS.imp (aeo (c:= .ref C) (tb:=fun W D σ H=> ∃Ex:XD,t_ X.K W Ex∧Bx X.K (tb Ex) D σ H) hs hf hex hN hi hj hln hlm ⟨hgx,hdx,.inl gC⟩ (fun W pn xe tk pa=>⟨fun pins s σ H D I ⟨Ex,xo,h⟩=>(hb Ex W pn xe tk xo pa).run pins s σ H D I h⟩) hsu) ?_
 rintro D σ H ⟨sl,M,E,rs,hm,⟨⟨x0,e0⟩,ht⟩,kn,kr,kb,kc⟩
 refine⟨fun n fs sl2 M2=>iY j (hide H M) sl2∧n∈ns∧E.nx ((sl2.set j (some (.err n fs))).set i none) M2,?_,?_⟩
 ·rintro n fs sl2 M2 ⟨wb,hn,hx⟩ cls d σ2 H2 rs2 rm2 ⟨C',rfl,nC,rf⟩
  refine⟨cC n hn C' nC,fun a na=> ?_⟩
  have le:Le H2 M2 (upd H2 a (wN (.ref C') d a)) M2:=vC na
  have rv:RV X.K (hide (upd H2 a (wN (.ref C') d a)) M2) (.ref a) (.err n fs):=⟨a,C',d,rfl,nC,BJ rm2 na,rf.sub le⟩
  have r3:=((((rs2.sub le).set i rv).set j rv).none i)
  have e3:(((sl2.set i (some (DV.err n fs))).set j (some (.err n fs))).set i none)=((sl2.set j (some (.err n fs))).set i none):=by
   rw [List.set_comm _ _ hij,List.set_set]
  rw [e3]at r3
  exact kn _ M2 hx _ _ (Le.trans (K_ rs2 wb) le) (GZ rm2 na) r3
 ·refine⟨_,M,_,JH rs j,hm,ht (hide H M),fun sl2 M2 h σ2 H2 l m r=>kn _ M2 h σ2 H2 l m (afe r j),kr,fun _ _ z=>z.elim,fun _ _ z=>z.elim⟩
end
end DL
namespace DL
open PySem PySem.Spec PyProof.Rows L2
section
variable {X:Cx} {a b e:Expr} {es:List Expr} {pos:Pos} {ta tb te:TD} {tas:eY}
structure fU (K:PySem.W.Frag) (mg:Str→Option Value) (n:Str):Prop where
 ex: ∃C,mg n=some (.ref C)∧PySem.W.nsIn K mainGlobals n=some (some (.ref C))
theorem fU.de {n:Str} (F:fU X.K X.mg n) (hg:Gl X n) (hd:(n==("__debug__" :Str))=false:=by decide):DE X (.Name n pos) (dC (.cls n)):=by
 obtain⟨C,m,q⟩:=F.ex
 exact wg (pe_glob (v:= .ref C) hg m rfl hd) fun _=>⟨C,rfl,q⟩
def CV:List DV→Option (List Str)
 | []=>some []
 | .cls n::r=>(CV r).map (n:: ·)
 |_=>none
theorem U4 {K:PySem.W.Frag} {H:Hp}: ∀{vs:List V} {xs:List DV} {ns:List Str},bY K H vs xs→CV xs=some ns→Paired (HS K) vs ns
 |_,_,_,.nil,e=>by cases e;exact .nil
 |v::vs,x::xs,ns,.cons h t,e=>by
  cases x with
  |cls n=>
   unfold CV at e
   cases ea:CV xs with
   |none=>rw [ea]at e;cases e
   |some q=>
    rw [ea]at e
    cases e
    exact .cons h (U4 t ea)
  |_=>cases e
def JC (t:eY):TD:=fun sl M R=>t sl M fun xs M1=>fK (CV xs) fun ns=>ns.length≤sizeLine∧R (.clss ns) M1
theorem Ve {x1:Nat} (h:DA X es tas):DE X (.Tuple es x1 pos) (JC tas):=
 PE.imp (pe_tup h) fun σ H Q ⟨sl,M,R,hs,hm,ht,k⟩=>⟨sl,M,_,hs,hm,ht,fun xs M1 h1 vs H1 l1 m1 r1=>by
  obtain⟨ns,e,g1⟩:=iK h1
  have rc:=U4 r1 e
  exact⟨by rw [Paired.length rc];exact g1.1,fun p n=>k _ M1 g1.2 _ _ (l1.trans (vC n)) (GZ m1 n) ⟨p,vs,rfl,SqT.of (BJ m1 n),rc⟩⟩⟩
structure G_ (K:PySem.W.Frag) (T:Str→Str→Option Bool) (Ty:Str→String→Option Bool):Prop where
 cls: ∀n m b,T n m=some b→ ∀C D,PySem.W.nsIn K mainGlobals n=some (some (.ref C))→PySem.W.nsIn K mainGlobals m=some (some (.ref D))→ExcC K C∧PySem.W.kitOne K (.ref C) (.ref D)=some b
 ty: ∀n m b,Ty n m=some b→ ∀C,PySem.W.nsIn K mainGlobals n=some (some (.ref C))→ExcC K C∧PySem.W.kitOne K (.ref C) (.type m)=some b
def wz (T:Str→Str→Option Bool) (n:Str):List Str→Option Bool
 | []=>some false
 |m::r=>match T n m,wz T n r with
  |some b,some c=>some (b||c)
  |_,_=>none
def Bv (T:Str→Str→Option Bool) (Ty:Str→String→Option Bool):GC
 | [.err n fs,.cls m],M,R=>fK (T n m) fun b=>R (.d (.bool b)) M
 | [.err n fs,.clss ms],M,R=>ms≠ []∧fK (wz T n ms) fun b=>R (.d (.bool b)) M
 | [.err n fs,.raw (.ty m)],M,R=>fK (Ty n m) fun b=>R (.d (.bool b)) M
 |_,_,_=>False
theorem Mq {pins:List (Addr×Obj)} {σ:L2.St} {H:Hp} {s:Shared} {p C:Addr} {d:Option Addr} {fs:List (Str×PyData)} {M:Mem} (I:Inv X pins σ H s) (h:H p=some (wN (.ref C) d p)) (rf:RF X.K (hide H M) d fs): ∃oe oq,PySem.W.InstAt s.heap p oe C oq:=by
 obtain⟨⟨oe,vs,e,⟨z1,z2⟩,dd⟩,_⟩:=I.hok p _ h
 rcases rf with⟨_,e0⟩|⟨d1,ws,⟨_,e0⟩,q,_⟩
 ·refine⟨oe,none,?_⟩
  obtain⟨oc,od,oda,osl⟩:=oe
  dsimp only at z1 z2 dd
  subst z1 z2 dd e0
  exact⟨e,rfl,rfl,trivial⟩
 ·have hx:ObjOk X.prog X.w H s.heap d1 (.xd ws):=I.hok d1 _ (d8 _ _ _ _ q)
  obtain⟨mA,hns,_⟩:=hx
  obtain⟨ox,_,_,ho,_⟩:=hns
  exact⟨oe,some ox,e,z1,by unfold PySem.W.notCls;rw [dd]<;>rfl,by rw [z2,e0];exact ho⟩
theorem acP {K:PySem.W.Frag} {prog:Program} {w:World} {A:Around} {E:Value→Shared→Prop} {Q:Option Value→Shared→Prop} {s:Shared} {x D:Addr} {ox:Obj} {oq:Option Obj} (F:ExcC K D) (kin:K.In s.heap) (J:PySem.W.InstAt s.heap x ox D oq) (h:Q (some (.ref D)) {s with toks:=s.toks+1}):
  wpAny (model prog w) A (getAttr? (.ref x) "__class__") Q E s:=by
 have found:PySem.W.findObj K D oq "__class__" =some (.bind (.builtin "getset_descriptor.__get__") (.builtin "object.__class__")):=by
  have some_:(PySem.W.clsIn K D).isSome=true:=by obtain⟨cd,hc,_⟩:=PySem.W.any_some F.hd;rw [hc];rfl
  cases oq with
  |none=>exact PySem.W.findObj_dataN some_ F.ha F.hn F.ht
  |some od=>exact PySem.W.findObj_data some_ F.ha F.hn F.ht
 obtain⟨hp,g,d,t,os⟩:=s
 have a0:=J.type (M:=model prog w)
 have a1:=PySem.W.looks_findIn (M:=model prog w) kin F.hg
 have a2:=PySem.W.looks_findIn (M:=model prog w) kin F.hk
 have a3:=PySem.W.looks_find (M:=model prog w) kin J found
 have under:PySem.W.Looks (model prog w) hp (isInstance (.ref x) (.type "BaseException")) true:=a0.andThen (PySem.W.looks_subIn kin F.hs)
 have no0:(false && onTheHeap (Value.builtin "BaseException.__getattribute__"))=false:=rfl
 have no1:(onTheHeap (Value.ref D) && Value.builtin "BaseException.__getattribute__" ==Value.builtin "object.__getattribute__")=false:=by
  rw [show(Value.builtin "BaseException.__getattribute__" ==Value.builtin "object.__getattribute__")=false by decide+kernel];rfl
 unfold getAttr? getAttrBy? getAttrBy
 refine wpAny_bind (wpAny_mkText (wpAny_bind (wpAny_attempt (wpAny_holding (wpAny_bind (a0.at (wpAny_bind (a1.at ?_))))))))
 show wpAny _ _ (if (onTheHeap (Value.ref D) && Value.builtin "BaseException.__getattribute__" ==Value.builtin "object.__getattribute__")=true then _ else _) _ _ _
 rw [no1,if_neg Bool.false_ne_true]
 unfold getAttrByItsOwn hookBefore
 refine wpAny_bind ?_
 rw [if_pos (show onTheHeap (Value.ref D)=true from rfl)]
 refine a2.at (wpAny_bind (wpAny_attempt (wpAny_holding ?_)))
 unfold callGetattribute
 rw [no0,if_neg Bool.false_ne_true]
 unfold boundAndCalled
 rw [PySem.F.excAttr_ValueError.ga.bind (.ref x)]
 refine wpAny_bind (wpAny_pure ?_)
 show wpAny _ _ (call (.builtin "BaseException.__getattribute__") [.ref x,.str "__class__" t]) _ _ _
 refine wpAny_call (codeAny_call_builtin PySem.F.excAttr_ValueError.ga.plain PySem.F.entry_bexc_ga (@PySem.W.check_slot (model prog w) _ _ ⟨hp,g,d,t+1,os⟩ "BaseException.__getattribute__" "BaseException" "__getattribute__" (.ref x) [.str "__class__" t] [] _ (by decide+kernel) (by decide+kernel) under (PySem.F.args_bexc_ga (.ref x) (.str "__class__" t)) ?_))
 unfold Builtin.«object.__getattribute__»
 refine wpAny_bind (wpAny_of_eq (a:=((Value.ref x:Value),[Value.str "__class__" t])) (by first|rfl|(simp only [slotArgs];rfl)) (wpAny_bind (wpAny_pure (wpAny_bind (a0.at (wpAny_bind (a3.at ?_)))))))
 show wpAny _ _ (holding [Value.builtin "object.__class__"] (call (.builtin "getset_descriptor.__get__") [.builtin "object.__class__",.ref x,.ref D])>>=ret) _ _ _
 refine wpAny_bind (wpAny_holding (wpAny_call (PySem.W.class_get (s:=⟨hp,g,d,t+1,os⟩) (ox:=ox) (od:=oq) kin J F.hm (wpAny_pure ?_))))
 show wpAny _ _ (handedOut (.ref D)) _ _ _
 rw [PySem.W.handedOut_of (v:= .ref D) rfl]
 first
  |exact wpAny_pure (wpAny_pure h)
  |exact wpAny_pure h
  |exact wpAny_pure (wpAny_bind (wpAny_pure (wpAny_pure h)))
theorem kitx_of {p C:Addr} {oe:Obj} {oq:Option Obj} (F:ExcC X.K C):PySem.W.KitX X.K (.ref p) (.ref C) (fun h=>PySem.W.InstAt h p oe C oq) where
 ty:=fun _ _ _ J=>J.type
 it:=fun _ _ kin _=>by
  obtain⟨cd,hc,_⟩:=PySem.W.any_some F.hd
  unfold PySem.W.clsIn at hc
  split at hc
  ·rename_i c' d' cd' sl' ho
   intro A' Q' E' z k q
   unfold isType loadHead
   exact wpAny_bind (wpAny_loadPart (k _ _ (kin _ _ ho)) (wpAny_pure q))
  ·cases hc
 ne:=fun h tp dd its n sl kin htp=>by
  obtain⟨cd,hc,_⟩:=PySem.W.any_some F.hd
  refine Bool.eq_false_iff.mpr fun q=> ?_
  have e:C=tp:=Value.ref.inj (beq_iff_eq.mp q)
  subst e
  unfold PySem.W.clsIn at hc
  split at hc
  ·rename_i c' d' cd' sl' ho
   cases (kin _ _ ho).symm.trans htp
  ·cases hc
 ca:=fun kin J k=>acP F kin J k
theorem Vl {K:PySem.W.Frag} {T:Str→Str→Option Bool} {Ty:Str→String→Option Bool} (F:G_ K T Ty) {n:Str} {C:Addr} (hn:PySem.W.nsIn K mainGlobals n=some (some (.ref C))): ∀{ms:List Str} {b:Bool} {vs:List V} {us:List Value},wz T n ms=some b→Paired (HS K) vs ms→Vals vs us→PySem.W.kitAny K (.ref C) us=some b
 | [],b,vs,us,h,p,r=>by
  cases p
  cases r
  cases h
  rfl
 |m::ms,b,vs,us,h,p,r=>by
  cases p with
  |cons p1 p2=>
   cases r with
   |cons r1 r2=>
    obtain⟨D,rfl,hD⟩:=p1
    cases r1
    unfold wz at h
    split at h
    ·rename_i b1 c e1 e2
     cases h
     have h1:=(F.cls n m b1 e1 C D hn hD).2
     have h2:=Vl F hn e2 p2 r2
     unfold PySem.W.kitAny
     rw [h1]
     cases b1
     ·exact h2
     ·rfl
    ·cases h
theorem Hv {T:Str→Str→Option Bool} {Ty:Str→String→Option Bool} (F:G_ X.K T Ty):CallD X (.builtin "isinstance") (Bv T Ty):=by
 intro pins s σ H vs us Q I r hh
 obtain⟨xs,M,R,hm,rv,hg,k⟩:=hh
 match xs,hg with
 | [.err n fs,.cls m],hg=>
  obtain⟨b,e,hg⟩:=iK hg
  cases rv with
  |cons r1 r2=>
   cases r2 with
   |cons r2 r3=>
    cases r3
    obtain⟨p,C,d,rfl,hn,q,rf⟩:=r1
    obtain⟨D,rfl,hD⟩:=r2
    cases r with
    |cons s1 s2=>
     cases s2 with
     |cons s2 s3=>
      cases s3
      cases s1
      cases s2
      obtain⟨oe,oq,J⟩:=Mq I (d8 _ _ _ _ q) rf
      obtain⟨f1,f2⟩:=F.cls n m b e C D hn hD
      exact PySem.W.kia_one (kitx_of (X:=X) f1) I.kIn J f2 (fun z=>nomatch z) fun tk=>⟨.bl b,H,I.kept (t':=tk) fun _ _ z=>z,rfl,dJ k hm hg (.bl _)⟩
 | [.err n fs,.clss ms],hg=>
  obtain⟨hne,hg⟩:=hg
  obtain⟨b,e,hg⟩:=iK hg
  cases rv with
  |cons r1 r2=>
   cases r2 with
   |cons r2 r3=>
    cases r3
    obtain⟨p,C,d,rfl,hn,q,rf⟩:=r1
    obtain⟨tp,cs,rfl,hT,pc⟩:=r2
    cases r with
    |cons s1 s2=>
     cases s2 with
     |cons s2 s3=>
      cases s3
      cases s1
      cases s2
      obtain⟨oe,oq,J⟩:=Mq I (d8 _ _ _ _ q) rf
      obtain⟨its,rv,ht,_⟩:=I.tuple (jZ (d8 _ _) hT)
      obtain⟨⟨oc,od,dt,sl⟩,h1,h2,n',h3⟩:=ht
      simp only at h2 h3
      subst h2 h3
      have f1:ExcC X.K C:=by
       cases ms with
       |nil=>exact absurd rfl hne
       |cons m ms=>
        unfold wz at e
        split at e
        ·rename_i b1 c e1 e2
         cases pc with
         |cons p1 p2=>
          obtain⟨D,_,hD⟩:=p1
          exact(F.cls n m b1 e1 C D hn hD).1
        ·cases e
      exact PySem.W.kia_tup (kitx_of (X:=X) f1) I.kIn J h1 (Vl F hn e pc rv) (fun z=>nomatch z) fun tk=>⟨.bl b,H,I.kept (t':=tk) fun _ _ z=>z,rfl,dJ k hm hg (.bl _)⟩
 | [.err n fs,.raw (.ty m)],hg=>
  obtain⟨b,e,hg⟩:=iK hg
  cases rv with
  |cons r1 r2=>
   cases r2 with
   |cons r2 r3=>
    cases r3
    obtain⟨p,C,d,rfl,hn,q,rf⟩:=r1
    cases r2
    cases r with
    |cons s1 s2=>
     cases s2 with
     |cons s2 s3=>
      cases s3
      cases s1
      cases s2
      obtain⟨oe,oq,J⟩:=Mq I (d8 _ _ _ _ q) rf
      obtain⟨f1,f2⟩:=F.ty n m b e C hn
      exact PySem.W.kia_one (kitx_of (X:=X) f1) I.kIn J f2 (fun z=>nomatch z) fun tk=>⟨.bl b,H,I.kept (t':=tk) fun _ _ z=>z,rfl,dJ k hm hg (.bl _)⟩
def A_:G2
 | .d x,.d .none,M,R=>R (.d (.bool (match x with| .none=>true|_=>false))) M
 | .err _ _,.d .none,M,R=>R (.d (.bool false)) M
 |_,_,_,_=>False
theorem agY:iW X (compareOp .Is) A_:=by
 intro pins s σ H x y v u Q I rx ry hh
 obtain⟨dx,dy,M,R,hm,r1,r2,hg,k⟩:=hh
 unfold A_ at hg
 split at hg
 ·exact tM pins s σ H x y v u Q I rx ry ⟨_,_,M,R,hm,r1,r2,hg,k⟩
 ·obtain⟨p,C,d,rfl,_⟩:=r1
  cases r2
  exact op_isN pins s σ H _ _ v u Q I rx ry ⟨rfl,dJ k hm hg (.bl _)⟩
 ·exact hg.elim
end
def Gp {β:Type} [DecidableEq β] (L:List (Str×β×Bool)) (n:Str) (m:β):Option Bool:=(L.find? fun p=>decide (p.1=n) && decide (p.2.1=m)).map (·.2.2)
theorem Yh {β:Type} [DecidableEq β] {L:List (Str×β×Bool)} {n:Str} {m:β} {b:Bool} (h:Gp L n m=some b):(n,m,b)∈L:=by
 unfold Gp at h
 cases e:L.find? fun p=>decide (p.1=n) && decide (p.2.1=m)with
 |none=>rw [e]at h;cases h
 |some p=>
  rw [e]at h
  cases h
  have h1:=List.mem_of_find?_eq_some e
  have h2:=List.find?_some e
  simp only [Bool.and_eq_true,decide_eq_true_eq]at h2
  obtain⟨rfl,rfl⟩:=h2
  exact h1
end DL
namespace DL
open PySem PySem.Spec PyProof.Rows L2
section
variable {X:Cx} {k:Nat} {sp:fV} {x:Str} {p pos:Pos} {a b e:Expr} {es:List Expr} {tas:eY} {ta tb te:TD}
def u9:List PyData→Option (List Str)
 | []=>some []
 | .str y::r=>(u9 r).map (y:: ·)
 |_=>none
theorem Jz {K:PySem.W.Frag} {H:Hp}: ∀{ws:List V} {ds:List PyData} {ys:List Str},cI K H ws ds→u9 ds=some ys→ws=ys.map V.str
 |_,_,_,.nil,e=>by cases e;rfl
 |_,d::ds,ys,.cons h t,e=>by
  cases d with
  |str y=>
   unfold u9 at e
   cases ea:u9 ds with
   |none=>rw [ea]at e;cases e
   |some q=>
    rw [ea]at e
    cases e
    cases h
    rw [Jz t ea]
    rfl
  |_=>cases e
def isStr:DV→Prop
 | .d (.str _)=>True
 |_=>False
def afI:DV→DV→Mem→KD→Prop
 | .d (.str a),.d (.list ds),M,R=>fK (u9 ds) fun ys=>(ys.map (·.length)).sum+ys.length*a.length≤16777216∧R (.d (.str (Txt.join a ys))) M
 | .d (.str a),.d (.tuple ds),M,R=>fK (u9 ds) fun ys=>(ys.map (·.length)).sum+ys.length*a.length≤16777216∧R (.d (.str (Txt.join a ys))) M
 |_,_,_,_=>False
def Jk (ta tb:TD):TD:=fun sl M R=>ta sl M fun x M1=>isStr x∧tb sl M1 fun y M2=>afI x y M2 R
theorem aie {apos cpos:Pos} (ha:DE X a ta) (hb:DE X b tb) (hs:starEach [b] X.env= [(false,eval b X.env)]:=by rfl) (hbase:attributeBase a "join" X.env (eval a X.env)=eval a X.env:=by rfl) (hline:(apos.endLine==cpos.line)=true:=by rfl):
  DE X (.Call (.Attribute a "join" apos) [b] [] cpos) (Jk ta tb):=
 PE.imp (pe_join ha hb hs hbase hline) fun σ H Q ⟨sl,M,R,rs,hm,ht,k⟩=>⟨sl,M,_,rs,hm,ht,fun x M1 h1 v H1 l1 m1 r1=>by
  obtain⟨hd,h1⟩:=h1
  match x,hd with
  | .d (.str s),_=>
   cases (show RD X.K (hide H1 M1) v (.str s)from r1)
   refine⟨⟨_,rfl⟩,sl,M1,_,rs.sub l1,m1,h1,fun y M2 h2 u H2 l2 m2 r2=> ?_⟩
   match y,h2 with
   | .d (.list ds),h2=>
    obtain⟨ys,e,hz,h2⟩:=iK h2
    cases (show RD X.K (hide H2 M2) u (.list ds)from r2)with
    |lst q1 q2=>exact⟨_,_,ys,rfl,rfl,.inl (by rw [←Jz q2 e];exact SqL.of (d8 _ _ _ _ q1)),hz,k _ M2 h2 _ H2 (l1.trans l2) m2 (.str _)⟩
   | .d (.tuple ds),h2=>
    obtain⟨ys,e,hz,h2⟩:=iK h2
    cases (show RD X.K (hide H2 M2) u (.tuple ds)from r2)with
    |tup q1 q2=>exact⟨_,_,ys,rfl,rfl,.inr (by rw [←Jz q2 e];exact jZ (d8 _ _) q1.t),hz,k _ M2 h2 _ H2 (l1.trans l2) m2 (.str _)⟩⟩
def KH:PyData→Mem→KD→Prop
 | .str a,M,R=>fK (PySem.intText? a) fun n=>a.length≤640∧R (.d (.int n)) M
 |x,M,R=>uN x M R
theorem Uk:CallD X (.type "int") (g1 KH):=by
 intro pins s σ H vs us Q I r hh
 obtain⟨xs,M,R,hm,rv,hg,k⟩:=hh
 match xs,hg with
 | [.d (.str a)],hg=>
  obtain⟨n,e,hz,hg⟩:=iK hg
  cases rv with
  |cons r1 r2=>
   cases r2
   cases (show RD X.K (hide H M) _ (.str a)from r1)
   exact call_int_str pins s σ H _ us Q I r ⟨a,n,rfl,e,hz,dJ k hm hg (.int _)⟩
 | [.d (.int i)],hg=>exact Dc pins s σ H vs us Q I r ⟨_,M,R,hm,rv,hg,k⟩
 | [.d (.bool i)],hg=>exact Dc pins s σ H vs us Q I r ⟨_,M,R,hm,rv,hg,k⟩
 | [.d .none],hg=>exact hg.elim
 | [.d (.list _)],hg=>exact hg.elim
 | [.d (.tuple _)],hg=>exact hg.elim
 | [.d (.dict _)],hg=>exact hg.elim
def J8:GC
 | [.d (.int i)],M,R=>i.natAbs.log2<1920∧R (.d (.str (toString i))) M
 |_,_,_=>False
theorem ab2:CallD X (.type "str") J8:=by
 intro pins s σ H vs us Q I r hh
 obtain⟨xs,M,R,hm,rv,hg,k⟩:=hh
 match xs,hg with
 | [.d (.int i)],hg=>
  cases rv with
  |cons r1 r2=>
   cases r2
   cases (show RD X.K (hide H M) _ (.int i)from r1)
   exact call_str_int pins s σ H _ us Q I r ⟨i,rfl,hg.1,dJ k hm hg.2 (.str _)⟩
def aea:DV→Mem→KD→Prop
 | .d (.str y),M,R=>y.length≤sizeLine∧R (.d (.str y)) M
 | .d (.int i),M,R=>i.natAbs.log2<1920∧R (.d (.str (toString i))) M
 |_,_,_=>False
def Ci (te:TD):TD:=fun sl M R=>te sl M fun x M1=>aea x M1 R
theorem XF (he:DE X e te):DE X (.FormattedValue e (-1) none pos) (Ci te):=
 PE.imp (pe_fmt he) fun σ H Q ⟨sl,M,R,rs,hm,ht,k⟩=>⟨sl,M,_,rs,hm,ht,fun x M1 h1 v H1 l1 m1 r1=>by
  match x,h1 with
  | .d (.str y),h1=>
   cases (show RD X.K (hide H1 M1) v (.str y)from r1)
   exact .inl ⟨_,rfl,h1.1,k _ M1 h1.2 _ H1 l1 m1 (.str _)⟩
  | .d (.int i),h1=>
   cases (show RD X.K (hide H1 M1) v (.int i)from r1)
   exact .inr ⟨_,rfl,h1.1,k _ M1 h1.2 _ H1 l1 m1 (.str _)⟩⟩
def JW:List TD→Str→Slots→Mem→(Str→Mem→Prop)→Prop
 | [],acc,_,M,Q=>Q acc M
 |t::ts,acc,sl,M,Q=>t sl M fun x M1=> ∃y:Str,x= .d (.str y)∧(acc++y).length≤sizeLine∧JW ts (acc++y) sl M1 Q
theorem Zi {σ:L2.St} {sl:Slots} {Q:Str→Mem→Prop}: ∀{ts:List TD} {acc:Str} {M:Mem} {H:Hp} {Q':Str→Hp→Prop},fj X.K (hide H M) σ sl→cD X.K H M→JW ts acc sl M Q→(∀out M',Q out M'→ ∀H',Le H M H' M'→cD X.K H' M'→Q' out H')→tJs (ts.map (iD X.K)) acc σ H Q'
 | [],acc,M,H,Q',rs,hm,h,k=>k acc M h H (Le.refl _ _) hm
 |t::ts,acc,M,H,Q',rs,hm,h,k=>⟨sl,M,_,rs,hm,h,fun x M1 ⟨y,e,hz,h1⟩ v H1 l1 m1 r1=>by
   subst e
   cases (show RD X.K (hide H1 M1) v (.str y)from r1)
   exact⟨y,rfl,hz,Zi (rs.sub l1) m1 h1 fun out M' q H' l m=>k out M' q H' (l1.trans l) m⟩⟩
def T7 (ts:List TD):TD:=fun sl M R=>JW ts Str.empty sl M fun out M1=>R (.d (.str out)) M1
theorem aip {v1 v2:Expr} {rest:List Expr} {ts:List TD} (h:PJ X (v1::v2::rest) (ts.map (iD X.K))):DE X (.JoinedStr (v1::v2::rest) pos) (T7 ts):=
 PE.imp (pe_joined h) fun σ H Q ⟨sl,M,R,rs,hm,ht,k⟩=>Zi rs hm ht fun out M' q H' l m=>k _ M' q _ H' l m (.str _)
theorem aho:PJ X [] (([]:List TD).map (iD X.K)):= .nil
theorem HW {ts:List TD} (h:DE X e te) (r:PJ X es (ts.map (iD X.K))):PJ X (e::es) ((te::ts).map (iD X.K)):= .cons h r
end
end DL
namespace DL
open PySem PySem.Spec PyProof.Rows L2
section
variable {X:Cx}
def Di:PyData→PyData→Mem→KD→Prop
 | .str x,.int n,M,R=>(1<n∧n≤100000∧0<x.length∧x.length≤100)∧R (.d (.str (Txt.mul x n))) M
 |_,_,_,_=>False
theorem mulOk_of {x:Str} {n:Int} (h1:1<n) (h2:n≤100000) (h3:x.length≤100):MulOk x n:=by
 refine⟨?_,fun _ _=> ?_,fun _ _=> ?_⟩
 ·rw [decide_eq_false (by omega),decide_eq_false (by omega)]
  rfl
 ·have:(x.length:Int)*n≤100*100000:=Int.mul_le_mul (by omega) h2 (by omega) (by decide)
  have h4:(100:Int)≤(2^63-1)/n:=(Int.le_ediv_iff_mul_le (by omega)).mpr (by omega)
  omega
 ·have:x.length*n.toNat≤100*100000:=Nat.mul_le_mul h3 (by omega)
  unfold Builtin.Str.tooLong
  rw [sizeLine_eq]
  exact decide_eq_false (by omega)
theorem Gz:iW X (binaryOp .Mult) (g2 Di):=pH fun pins s σ H x y v u Q dx dy M R I rv ru hm rx ry hg k=>by
 cases rx with
 |str i=>
  cases ry with
  |int j=>
   obtain⟨⟨h1,h2,h3,h4⟩,hg⟩:=hg
   obtain⟨t,rfl⟩:=rv
   obtain⟨t',rfl⟩:=ru
   exact SB.mul (mulOk_of h1 h2 h4) fun t' tk=>⟨.str _,H,I.tok _,⟨_,rfl⟩,dJ k hm hg (.str _)⟩
  |_=>exact hg.elim
 |_=>exact hg.elim
theorem ah_ {x:Str} {n:Nat} (h1:1<n) (h2:0<x.length):(Txt.mul x (n:Nat)).cps.toList=(List.replicate n x.cps.toList).flatten:=by
 unfold Txt.mul
 rw [if_neg (by omega),if_neg]
 ·show((List.replicate ((n:Nat):Int).toNat x.cps).foldl (· ++ ·) #[]).toList=_
  rw [Int.toNat_natCast]
  have go: ∀(l:List (Array Nat)) (acc:Array Nat),(l.foldl (· ++ ·) acc).toList=acc.toList++(l.map Array.toList).flatten:=by
   intro l
   induction l with
   |nil=>intro acc;simp
   |cons a l ih=>
    intro acc
    rw [List.foldl_cons,ih,Array.toList_append,List.map_cons,List.flatten_cons,List.append_assoc]
  rw [go,List.map_replicate]
  rfl
 ·intro z
  rcases Bool.or_eq_true _ _▸z with z|z
  ·have:=of_decide_eq_true (p:=((n:Nat):Int)=1) (by simpa using z)
   omega
  ·have:=beq_iff_eq.mp z
   omega
section
variable {t u:fZ} {sl:Slots} {M:Mem} {RB:KB}
theorem acX (h:t sl M fun k M1=>RB (!k) M1):KN t sl M RB:=h
end
end
end DL
namespace DL
open PySem PySem.Spec PyProof.Rows L2
section
variable {κ:Type} [DecidableEq κ]
def je (kvs:List (κ×DV)) (k:κ):Option DV:=(kvs.find? fun p=>decide (p.1=k)).map (·.2)
def vU (kvs:List (κ×DV)) (k:κ) (v:DV):List (κ×DV):=
 if (kvs.any fun kv=>decide (kv.1=k))=true then kvs.map (fun kv=>if kv.1=k then(kv.1,v)else kv)else kvs++ [(k,v)]
theorem Mf (p:κ×DV) (r:List (κ×DV)) (k:κ):je (p::r) k=if p.1=k then some p.2 else je r k:=by
 unfold je
 by_cases h:p.1=k
 ·rw [List.find?_cons_of_pos (by exact decide_eq_true h),if_pos h]
  rfl
 ·rw [List.find?_cons_of_neg (by simpa using h),if_neg h]
end
theorem dF.look {K:PySem.W.Frag} {H:Hp} (k:Key): ∀{vs:List (Key×V)} {xs:List (Key×DV)},dF K H vs xs→(∃v x,valV vs k=some v∧je xs k=some x∧RV K H v x)∨(valV vs k=none∧je xs k=none)
 |_,_,.nil=> .inr ⟨rfl,rfl⟩
 |p::vs,q::xs,.cons h t=>by
  have e1:valV (p::vs) k=if p.1=k then some p.2 else valV vs k:=by
   unfold valV
   by_cases z:p.1=k
   ·rw [List.find?_cons_of_pos (by exact decide_eq_true z),if_pos z];rfl
   ·rw [List.find?_cons_of_neg (by simpa using z),if_neg z]
  rw [e1,Mf,h.1]
  by_cases z:q.1=k
  ·rw [if_pos z,if_pos z]
   exact .inl ⟨_,_,rfl,rfl,h.2⟩
  ·rw [if_neg z,if_neg z]
   exact dF.look k t
section
variable {X:Cx} {a b c e:Expr} {ta tb tc te to ti:TD} {pos:Pos}
def JD (neg:Bool):G2
 |y,.raw (.ref p),M,R=>fK (keyV y) fun k=>getD M p fun kvs=>R (.d (.bool (if neg then !(je kvs k).isSome else(je kvs k).isSome))) M
 |_,_,_,_=>False
theorem afO {y:DV} {x:DV} {neg:Bool} {M:Mem} {R:KD} (h:JD neg y x M R): ∃p k kvs,x= .raw (.ref p)∧keyV y=some k∧M p=some (.dk kvs)∧R (.d (.bool (if neg then !(je kvs k).isSome else(je kvs k).isSome))) M:=by
 unfold JD at h
 split at h
 ·obtain⟨key,e1,h⟩:=iK h
  obtain⟨kvs,e2,h⟩:=Bf h
  exact⟨_,_,_,rfl,e1,e2,h⟩
 ·exact h.elim
theorem ahJ {K:PySem.W.Frag} {H:Hp} {k:Key} {vs:List (Key×V)} {xs:List (Key×DV)} (r:dF K H vs xs):(valV vs k).isSome=(je xs k).isSome:=by
 rcases dF.look k r with⟨v,x,f1,f2,_⟩|⟨f1,f2⟩
 ·rw [f1,f2];rfl
 ·rw [f1,f2];rfl
end
section
variable {X:Cx} {a b c e:Expr} {ta tb tc te to ti:TD} {pos:Pos}
def CZ (neg:Bool):G2
 | .d (.tuple ks),.raw (.ref p),M,R=>fK (yN ks) fun ns=>getT M p fun kvs=>R (.d (.bool (if neg then !(je kvs ns).isSome else(je kvs ns).isSome))) M
 |_,_,_,_=>False
theorem vH.len {K:PySem.W.Frag} {H0:Hp} {kas:List (List Int×Addr×V)} {kvs:List (List Int×DV)} (r:vH K H0 kas kvs):kas.length=kvs.length:=Paired.length r
end
end DL
namespace DL
open PySem PySem.Spec PyProof.Rows L2
def putN (f:Str) (v:DV):List (Str×DV)→List (Str×DV)
 | []=> [(f,v)]
 |(g,x)::r=>if g=f then(g,v)::r else(g,x)::putN f v r
theorem gJ.put {K:PySem.W.Frag} {H:Hp} {f:Str} {v:V} {d:DV} (rv:RV K H v d): ∀{vs:List (Str×V)} {fs:List (Str×DV)},gJ K H vs fs→gJ K H (putF f v vs) (putN f d fs)
 | [],[],.nil=> .cons ⟨rfl,rv⟩ .nil
 |(g,x)::vs,(g',y)::fs,.cons h t=>by
  obtain⟨rfl,h2⟩:=(show g=g'∧RV K H x y from h)
  unfold putF putN
  by_cases z:g=f
  ·rw [if_pos z,if_pos z]
   exact .cons ⟨rfl,rv⟩ t
  ·rw [if_neg z,if_neg z]
   exact .cons ⟨rfl,h2⟩ (gJ.put rv t)
theorem gJ.look {K:PySem.W.Frag} {H:Hp} (f:Str): ∀{vs:List (Str×V)} {fs:List (Str×DV)},gJ K H vs fs→(∃v d,vs.lookup f=some v∧fs.lookup f=some d∧RV K H v d)∨(vs.lookup f=none∧fs.lookup f=none)
 | [],[],.nil=> .inr ⟨rfl,rfl⟩
 |(g,x)::vs,(g',y)::fs,.cons h t=>by
  obtain⟨rfl,h2⟩:=(show g=g'∧RV K H x y from h)
  by_cases z:f=g
  ·subst z
   exact .inl ⟨x,y,by simp [List.lookup],by simp [List.lookup],h2⟩
  ·have e:(f==g)=false:=by simpa using z
   rw [show List.lookup f ((g,x)::vs)=List.lookup f vs by simp [List.lookup,e],show List.lookup f ((g,y)::fs)=List.lookup f fs by simp [List.lookup,e]]
   exact gJ.look f t
theorem gJ.len {K:PySem.W.Frag} {H:Hp} {vs:List (Str×V)} {fs:List (Str×DV)} (r:gJ K H vs fs):vs.length=fs.length:=Paired.length r
structure fB (K:PySem.W.Frag) (n f:Str):Prop where
 ex: ∀C,PySem.W.nsIn K mainGlobals n=some (some (.ref C))→Cls K C∧NoAttr K C f
section
variable {X:Cx} {a b c e o:Expr} {es:List Expr} {ta tb tc te to ti:TD} {tas:eY} {pos apos:Pos} {n f m:Str} {k:Nat} {sp:dM}
def jK (n f:Str) (te:TD):TD:=fun sl M R=>te sl M fun x M1=>match x with
 | .raw (.ref a)=>nj M1 a n fun fs=>fK (fs.lookup f) fun v=>R v M1
 |_=>False
theorem kY (F:fB X.K n f) (he:DE X e te) (hb:attributeBase e f X.env (eval e X.env)=eval e X.env:=by rfl):DE X (.Attribute e f pos) (jK n f te):=
 PE.imp (pe_fld he hb) fun σ H Q ⟨sl,M,R,hs,hm,ht,k⟩=>⟨sl,M,_,hs,hm,ht,fun x M1 h1 v H1 l1 m1 r1=>by
  split at h1
  ·obtain⟨fs,e1,h1⟩:=vh h1
   obtain⟨w,e2,h1⟩:=iK h1
   cases r1
   obtain⟨C,dx,vs,hC,q1,q2⟩:=m1 _ _ e1
   obtain⟨c1,c2⟩:=F.ex C hC
   rcases gJ.look f q2 with⟨v',d',f1,f2,f3⟩|⟨_,f1⟩
   ·rw [e2]at f2
    cases f2
    exact⟨_,C,dx,vs,v',rfl,q1,c1,c2,f1,k _ M1 h1 _ _ l1 m1 f3⟩
   ·rw [e2]at f1
    cases f1
  ·exact h1.elim⟩
def tQ (n f:Str) (te to:TD):bK:=fun D sl M=>te sl M fun x M1=>to sl M1 fun o M2=>match o with
 | .raw (.ref a)=>nj M2 a n fun fs=>fs.length<900∧D.nx sl (bD M2 a (.ins n (putN f x fs)))
 |_=>False
theorem vG {pos':Pos} (F:fB X.K n f) (he:DE X e te) (ho:DE X o to) (hs:swapsWith e (some (.Attribute o f pos')) pos.line X.env=pure false:=by rfl):DS X (.Assign [.Attribute o f pos'] e pos) (tQ n f te to):=
 PS.imp (ps_fld ho he hs) fun D σ H ⟨sl,M,E,hs,hm,ht,kn,kr,kb,kc⟩=>⟨sl,M,_,hs,hm,ht,fun x M1 h1 v H1 l1 m1 r1=>⟨sl,M1,_,hs.sub l1,m1,h1,fun o M2 h2 ov H2 l2 m2 r2=>by
  have l:=l1.trans l2
  split at h2
  ·rename_i a
   obtain⟨fs,e1,h2⟩:=vh h2
   cases r2
   obtain⟨C,dx,vs,hC,q1,q2⟩:=m2 _ _ e1
   obtain⟨c1,c2⟩:=F.ex C hC
   have le:Le H2 M2 (upd H2 a (.ins C dx (putF f v vs))) (bD M2 a (.ins n (putN f x fs))):=k_ e1
   exact⟨a,C,dx,vs,rfl,q1,c1,c2,by rw [gJ.len q2];omega,kn _ _ h2.2 σ _ (l.trans le) (uw (mo:= .ins n (putN f x fs)) m2 e1 ⟨C,dx,_,hC,upd_same,gJ.put (RV.sub l2 r1) q2⟩) ((hs.sub l).sub le)⟩
  ·exact h2.elim⟩⟩
structure jW (P:Program) (w:World) (K:PySem.W.Frag) (mg:Str→Option Value) (base:Heap) (n m:Str) (k:Nat) (sp:dM):Prop where
 ex: ∃(C f:Addr) (fd:FuncData) (ps:List Str),PySem.W.nsIn K mainGlobals n=some (some (.ref C))∧Cls K C∧Meth K C m f∧bM P w K mg base CX0 k f fd ps (dO K sp)∧Binds K fd ps []
def iZ (n m:Str) (sp:dM) (to:TD) (tas:eY):TD:=fun sl M R=>to sl M fun o M1=>match o with
 | .raw (.ref a)=>nj M1 a n fun fs=>fs.lookup m=none∧tas sl M1 fun xs M2=>sp (.raw (.ref a)::xs) M2 R
 |_=>False
theorem runM {pins:List (Addr×Obj)} {σ:L2.St} {H:Hp} {s:Shared} {Q:VK} {us:List Value} {vs:List V} {CX:CXT} {g x:Addr} {fd:FuncData} {ps:List Str} {spF:Sp} {E:XK} (hgd:X.A.guards=some []) (F:bM X.prog X.w X.K X.mg X.base CX k g fd ps spF) (hr:Room k X.A) (hb:Binds X.K fd ps []) (hx:Passes CX X E)
  (I:Inv X pins σ H s) (r:Vals vs us) (h:spF (.ref x::vs) H Q E):wpAny (model X.prog X.w) X.A (call (.ref g) (.ref x::us)) (EP X pins σ Q) X.xe s:=
 UL (us:= .ref x::us) (vs:= .ref x::vs) hgd F hr hb .nil hx I (.cons rfl r) (by rw [List.append_nil];exact h)
theorem jW.de {pl:Sem Bool} (D:jW X.prog X.w X.K X.mg X.base n m k sp) (hgd:X.A.guards=some []) (hr:Room k X.A) (ho:DE X o to) (ha:DA X (e::es) tas)
  (hst:starEach (e::es) X.env=(false,eval e X.env)::starEach es X.env:=by rfl) (hpl:(backTo pos (starEach es X.env)).any (·.1)=false:=by rfl)
  (ht:eval (.Call (.Attribute o m apos) (e::es) [] pos) X.env=(do
   let ov←eval o X.env
   standAt apos.atName
   let (g,first)←holding [ov] (getMethod ov m pl)
   callWith pos g first (backTo pos (starEach (e::es) X.env)) (backToKw pos (keywordEach [] X.env))):=by rfl):
  DE X (.Call (.Attribute o m apos) (e::es) [] pos) (iZ n m sp to tas):=by
 obtain⟨C,g,fd,ps,hC,cl,me,F,hb⟩:=D.ex
 refine⟨fun pins s σ H Q I ⟨sl,M,R,rs,hm,hh,kk⟩=> ?_⟩
 refine PySem.W.methodCall_KW (pl:=pl) (thn (ho.run pins s σ H _ I ⟨sl,M,_,rs,hm,hh,fun x M1 h1 v H1 l1 m1 r1=>(show(fun v H1=> ∃x M1,Le H M H1 M1∧cD X.K H1 M1∧RV X.K (hide H1 M1) v x∧(match x with
  | .raw (.ref a)=>nj M1 a n fun fs=>fs.lookup m=none∧tas sl M1 fun xs M2=>sp (.raw (.ref a)::xs) M2 R
  |_=>False)) v H1 from⟨x,M1,l1,m1,r1,h1⟩)⟩) ?_) ht
 rintro ov s1 ⟨v,H1,I1,rv,x,M1,l1,m1,r1,h1⟩
 split at h1
 ·rename_i a
  obtain⟨fs,e1,hl,h1⟩:=vh h1
  cases r1
  cases rv
  obtain⟨C',dx,vs,hC',q1,q2⟩:=m1 _ _ e1
  cases hC.symm.trans hC'
  have lm:vs.lookup m=none:=by
   rcases gJ.look m q2 with⟨_,_,_,f2,_⟩|⟨f1,_⟩
   ·rw [hl]at f2;cases f2
   ·exact f1
  refine getmeth_ok I1 q1 cl me lm (PySem.W.callWith_K (first:= [.ref a]) (h₀:=X.base) I.ok.mod.kin me.kp (thn (ha.run pos pins s1 σ H1 _ I1 ⟨sl,M1,_,rs.sub l1,m1,h1,fun xs M2 h2 us H2 l2 m2 r2=>(show(fun us H2=> ∃xs M2,Le H1 M1 H2 M2∧cD X.K H2 M2∧bY X.K (hide H2 M2) us xs∧sp (.raw (.ref a)::xs) M2 R) us H2 from⟨xs,M2,l2,m2,r2,h2⟩)⟩) ?_) hst hpl)
  rintro ws s2 ⟨us,H2,I2,ru,xs,M2,l2,m2,r2,h2⟩
  exact⟨I2.kIn,runM hgd F hr hb pass0 I2 ru ⟨.raw (.ref a)::xs,M2,R,.cons rfl r2,m2,h2,kk.le (l1.trans l2)⟩⟩
 ·exact h1.elim
theorem jW.de0 {pl:Sem Bool} (D:jW X.prog X.w X.K X.mg X.base n m k sp) (hgd:X.A.guards=some []) (hr:Room k X.A) (ho:DE X o to)
  (ht:eval (.Call (.Attribute o m apos) [] [] pos) X.env=(do
   let ov←eval o X.env
   standAt apos.atName
   let (g,first)←holding [ov] (getMethod ov m pl)
   callWith pos g first (backTo pos (starEach [] X.env)) (backToKw pos (keywordEach [] X.env))):=by rfl):
  DE X (.Call (.Attribute o m apos) [] [] pos) (iZ n m sp to aH):=by
 obtain⟨C,g,fd,ps,hC,cl,me,F,hb⟩:=D.ex
 refine⟨fun pins s σ H Q I ⟨sl,M,R,rs,hm,hh,kk⟩=> ?_⟩
 refine PySem.W.methodCall_KW (pl:=pl) (thn (ho.run pins s σ H _ I ⟨sl,M,_,rs,hm,hh,fun x M1 h1 v H1 l1 m1 r1=>(show(fun v H1=> ∃x M1,Le H M H1 M1∧cD X.K H1 M1∧RV X.K (hide H1 M1) v x∧(match x with
  | .raw (.ref a)=>nj M1 a n fun fs=>fs.lookup m=none∧aH sl M1 fun xs M2=>sp (.raw (.ref a)::xs) M2 R
  |_=>False)) v H1 from⟨x,M1,l1,m1,r1,h1⟩)⟩) ?_) ht
 rintro ov s1 ⟨v,H1,I1,rv,x,M1,l1,m1,r1,h1⟩
 split at h1
 ·rename_i a
  obtain⟨fs,e1,hl,h1⟩:=vh h1
  cases r1
  cases rv
  obtain⟨C',dx,vs,hC',q1,q2⟩:=m1 _ _ e1
  cases hC.symm.trans hC'
  have lm:vs.lookup m=none:=by
   rcases gJ.look m q2 with⟨_,_,_,f2,_⟩|⟨f1,_⟩
   ·rw [hl]at f2;cases f2
   ·exact f1
  exact getmeth_ok I1 q1 cl me lm (PySem.W.callWith_K0 (first:= [.ref a]) I1.kIn me.kp (runM (us:= []) hgd F hr hb pass0 I1 .nil ⟨[.raw (.ref a)],M1,R,.cons rfl .nil,m1,h1,kk.le l1⟩))
 ·exact h1.elim
structure wW (P:Program) (w:World) (K:PySem.W.Frag) (mg:Str→Option Value) (base:Heap) (n:Str) (k:Nat) (sp:dM):Prop where
 ex: ∃(C f:Addr) (fd:FuncData) (ps:List Str),mg n=some (.ref C)∧PySem.W.nsIn K mainGlobals n=some (some (.ref C))∧Mk K C f∧bM P w K mg base CX0 k f fd ps (dO K sp)∧Binds K fd ps []
def wG (n:Str) (sp:dM) (tas:eY):TD:=fun sl M R=>tas sl M fun xs M1=> ∀x,M1 x=none→sp (.raw (.ref x)::xs) (bD M1 x (.ins n [])) fun v M2=>v= .d .none∧R (.raw (.ref x)) M2
theorem H_ {H:Hp} {M:Mem} {x dx C:Addr} (n1:H x=none) (n2:H dx=none) (ne:dx≠x):Le H M (upd (upd H dx (.own x)) x (.ins C dx [])) (bD M x (.ins n [])):=fun a w q=>by
 have q1:=d8 H M a w q
 have a1:=ne_of_none q1 n1
 have a2:=ne_of_none q1 n2
 refine oE ?_ ?_
 ·rw [upd_ne a1,upd_ne a2];exact q1
 ·rw [fO a1];exact uf q
theorem Ls {K:PySem.W.Frag} {H:Hp} {M:Mem} {x dx C:Addr} (hm:cD K H M) (hC:PySem.W.nsIn K mainGlobals n=some (some (.ref C))) (n1:H x=none) (n2:H dx=none) (ne:dx≠x):cD K (upd (upd H dx (.own x)) x (.ins C dx [])) (bD M x (.ins n [])):=fun a u q=>by
 by_cases ha:a=x
 ·subst ha
  rw [cY]at q
  cases q
  exact⟨C,dx,[],hC,upd_same,.nil⟩
 ·rw [fO ha]at q
  refine(hm a _ q).mono (fun w z=> ?_) (H_ n1 n2 ne)
  rw [upd_ne ha,upd_ne (ne_of_none z n2)]
  exact z
theorem wW.de {x:Str} {p:Pos} (D:wW X.prog X.w X.K X.mg X.base x k sp) (hgd:X.A.guards=some []) (hr:Room (k+1) X.A) (hg:Gl X x) (ha:DA X (e::es) tas) (hdb:(x==("__debug__" :Str))=false:=by decide)
  (he:starEach (e::es) X.env=(false,eval e X.env)::starEach es X.env:=by rfl) (hpl:(backTo pos (starEach es X.env)).any (·.1)=false:=by rfl):DE X (.Call (.Name x p) (e::es) [] pos) (wG x sp tas):=by
 obtain⟨C,g,fd,ps,hmC,hC,mk,F,hb⟩:=D.ex
 refine⟨fun pins s σ H Q I ⟨sl,M,R,rs,hm,hh,kk⟩=> ?_⟩
 refine wpAny_Call_Name_kw (ld_glob I hg hmC (PySem.W.callWith_K (h₀:=X.base) I.ok.mod.kin mk.kp (thn (ha.run pos pins s σ H _ I ⟨sl,M,_,rs,hm,hh,fun xs M2 h2 us H2 l2 m2 r2=>(show(fun us H2=> ∃xs M2,Le H M H2 M2∧cD X.K H2 M2∧bY X.K (hide H2 M2) us xs∧(∀x',M2 x'=none→sp (.raw (.ref x')::xs) (bD M2 x' (.ins x [])) fun v M3=>v= .d .none∧R (.raw (.ref x')) M3)) us H2 from⟨xs,M2,l2,m2,r2,h2⟩)⟩) ?_) he hpl) hdb)
 rintro us s1 ⟨vs,H1,I1,rv,xs,M1,l1,m1,r1,h1⟩
 refine⟨I1.kIn,?_⟩
 have nx:H1 (s1.heap.objs.size+1)=none:=I1.hok.fresh (Nat.le_succ _)
 have nd:H1 s1.heap.objs.size=none:=I1.hok.fresh (Nat.le_refl _)
 have ne:s1.heap.objs.size≠s1.heap.objs.size+1:=Nat.ne_of_lt (Nat.lt_succ_self _)
 have lm:=H_ (M:=M1) (C:=C) (n:=x) nx nd ne
 have hsp:=h1 _ (oN m1 nx)
 have I2:=Inv.made (C:=C) I1
 have rr:Vals (V.ref (s1.heap.objs.size+1)::vs) (Value.ref (s1.heap.objs.size+1)::us):= .cons rfl rv
 have goal:dO X.K sp (V.ref (s1.heap.objs.size+1)::vs) (upd (upd H1 s1.heap.objs.size (.own (s1.heap.objs.size+1))) (s1.heap.objs.size+1) (.ins C s1.heap.objs.size [])) (fun v H2=>v= .non∧Q (.ref (s1.heap.objs.size+1)) H2) E0:=by
  refine⟨.raw (.ref (s1.heap.objs.size+1))::xs,_,_,.cons rfl (bY.sub lm r1),Ls m1 hC nx nd ne,hsp,?_⟩
  rintro d M3 ⟨rfl,hq⟩ v H3 l3 m3 r3
  cases r3
  exact⟨rfl,kk _ M3 hq _ _ ((l1.trans lm).trans l3) m3 rfl⟩
 have hlen:(Value.ref (s1.heap.objs.size+1)::us).length=ps.length:=rr.length.symm.trans (F.len _ _ _ _ goal)
 have bd:=hb _ (Value.ref (s1.heap.objs.size+1)::us) I2.kIn (by rw [List.append_nil];exact hlen)
 rw [List.append_nil]at bd
 refine wpAny_call (make_map (f:=g) I1.kIn mk.makes mk.init (beq_iff_eq.mp mk.fn) (codeAny_mono (F.run _ X.stack _ _ _ _ _ _ _ hgd (hr.make C us []) (I2.env0.make C us []) bd rr goal) ?_))
 intro r s' hq
 match r,hq with
 | .error er,hq=>exact(pass0 (X:=X)) pins σ _ _ er s' I2 hq
 | .ok (.ret u),hq=>
  obtain⟨v,H',I3,rv',ev,q3⟩:=I2.after hq
  subst ev
  exact⟨rv',⟨V.ref (s1.heap.objs.size+1),H',I3,rfl,q3⟩⟩
end
end DL
namespace DL
open PySem PySem.Spec PyProof.Rows L2
end DL
namespace DL
open PySem PySem.Spec PyProof.Rows L2
section
variable {X:Cx} {M:Mem}
mutual
theorem RD.dp {K:PySem.W.Frag} {H:Hp}: ∀{v:V} {d:PyData},RD K H v d→d.canLay0=true→Dp K H v d
 |_,_,.non,_=> .non
 |_,_,.bl b,_=> .bl b
 |_,_,.int i,_=> .int i
 |_,_,.str x,_=> .str x
 |_,_,.lst h r,c=> .lst (SqL.of h) (cI.dp r c)
 |_,_,.tup h r,c=> .tup h.t (cI.dp r c)
 |_,_,.dct h r,c=>by simp [PyData.canLay0]at c
theorem cI.dp {K:PySem.W.Frag} {H:Hp}: ∀{v:List V} {d:List PyData},cI K H v d→PyData.canLayAll0 d=true→DpAll K H v d
 |_,_,.nil,_=> .nil
 |_,_,.cons h r,c=>by
  simp only [PyData.canLayAll0,Bool.and_eq_true]at c
  exact .cons (RD.dp h c.1) (cI.dp r c.2)
end
variable {a b:Expr} {ta tb:TD}
end
end DL
namespace DL
open PySem PySem.Spec PyProof.Rows L2
end DL
namespace DL
open PySem PySem.Spec PyProof.Rows L2
@[irreducible] def yP (M:Mem) (p:Addr) (n:Str) (k:Option Addr→Prop):Prop:= ∃d,M p=some (.exo n d)∧k d
theorem Kh {M:Mem} {p:Addr} {n:Str} {k:Option Addr→Prop} {d:Option Addr} (e:M p=some (.exo n d)) (h:k d):yP M p n k:=by
 unfold yP
 exact⟨d,e,h⟩
theorem Vc {M:Mem} {p:Addr} {n:Str} {k:Option Addr→Prop} (h:yP M p n k): ∃d,M p=some (.exo n d)∧k d:=by
 unfold yP at h
 exact h
@[irreducible] def Dd (M:Mem) (p:Addr) (k:List (Str×DV)→Prop):Prop:= ∃fs,M p=some (.exd fs)∧k fs
theorem ab6 {M:Mem} {p:Addr} {k:List (Str×DV)→Prop} {fs:List (Str×DV)} (e:M p=some (.exd fs)) (h:k fs):Dd M p k:=by
 unfold Dd
 exact⟨fs,e,h⟩
theorem afL {M:Mem} {p:Addr} {k:List (Str×DV)→Prop} (h:Dd M p k): ∃fs,M p=some (.exd fs)∧k fs:=by
 unfold Dd at h
 exact h
structure Cg (K:PySem.W.Frag) (n f:Str):Prop where
 ex: ∀C,PySem.W.nsIn K mainGlobals n=some (some (.ref C))→OexC K C∧PySem.W.findIn K (.ref C) f=some none
structure Lh (K:PySem.W.Frag) (n:Str):Prop where
 ex: ∀C,PySem.W.nsIn K mainGlobals n=some (some (.ref C))→OexC K C
structure HX (K:PySem.W.Frag) (mg:Str→Option Value) (b:Str):Prop where
 ex: ∃B,mg b=some (.ref B)∧PySem.W.specialIn K (.ref B) "__getattribute__" =some (some (.builtin "type.__getattribute__"))∧PySem.W.readsIn K B (.type "type")=true∧PySem.W.findCls K (.ref B) (.type "type") "__init__" =some (.val (.builtin "ValueError.__init__"))
section
variable {X:Cx} {o e:Expr} {es:List Expr} {te to:TD} {tas:eY} {ta:TA} {f n b:Str} {p p' p1 p2 pos:Pos}
theorem agB {pl:Sem Bool} (F:HX X.K X.mg b) (hg:Gl X b) (ha:PA X (e::es) ta) (hdb:(b==("__debug__" :Str))=false)
  (hc:eval (.Call (.Attribute (.Name b p1) "__init__" p2) (e::es) [] pos) X.env=(do
   let ov←eval (.Name b p1) X.env
   standAt p2.atName
   let (g,first)←holding [ov] (getMethod ov "__init__" pl)
   callWith pos g first (backTo pos (starEach (e::es) X.env)) (backToKw pos (keywordEach [] X.env))))
  (he:starEach (e::es) X.env=(false,eval e X.env)::starEach es X.env) (hpl:(backTo pos (starEach es X.env)).any (·.1)=false):
  PE X (.Call (.Attribute (.Name b p1) "__init__" p2) (e::es) [] pos) (tVeI X.K ta):=by
 obtain⟨B,hm,h1,h2,h3⟩:=F.ex
 refine⟨fun pins s σ H Q I h=>PySem.W.methodCall_KW (ld_glob I hg hm (PySem.W.method_cls I.kIn h1 (PySem.W.cls_value I.kIn h2 h3 rfl ?_)) hdb) hc⟩
 show wpAny _ _ (callWith pos (Value.builtin "ValueError.__init__") [] (backTo pos (starEach (e::es) X.env)) []) _ _ _
 refine PyProof.Rows.callWith_method1 (thn (ha.run pos pins _ σ H _ (I.tok _) h) fun us s1 ⟨vs,H1,I1,r1,a,C,ws,ev,hl,T,ea,q⟩=> ?_) he hpl
 subst ev
 cases r1 with
 |cons ra rr=>
  cases ra
  exact oinit_ok T I1 ea (by rw [←Paired.length rr,sizeLine_eq];omega) fun s' J=>⟨.non,H1,J,rfl,q⟩
def WY (n:Str) (tas:eY):TD:=fun sl M R=>tas sl M fun xs M1=>match xs with
 | .raw (.ref a)::ws=>ws.length≤1000∧yP M1 a n fun d=>d=none∧R (.d .none) M1
 |_=>False
theorem adR {pl:Sem Bool} (F:HX X.K X.mg b) (T:Lh X.K n) (hg:Gl X b) (ha:DA X (e::es) tas) (hdb:(b==("__debug__" :Str))=false:=by decide)
  (hc:eval (.Call (.Attribute (.Name b p1) "__init__" p2) (e::es) [] pos) X.env=(do
   let ov←eval (.Name b p1) X.env
   standAt p2.atName
   let (g,first)←holding [ov] (getMethod ov "__init__" pl)
   callWith pos g first (backTo pos (starEach (e::es) X.env)) (backToKw pos (keywordEach [] X.env))):=by rfl)
  (he:starEach (e::es) X.env=(false,eval e X.env)::starEach es X.env:=by rfl) (hpl:(backTo pos (starEach es X.env)).any (·.1)=false:=by rfl):
  DE X (.Call (.Attribute (.Name b p1) "__init__" p2) (e::es) [] pos) (WY n tas):=
 PE.imp (agB F hg ha hdb hc he hpl) fun σ H Q ⟨sl,M,R,hs,hm,ht,k⟩=>⟨sl,M,_,hs,hm,ht,fun xs M1 h1 vs H1 l1 m1 r1=>by
  match xs,h1 with
  | .raw (.ref a)::ws,⟨hl,h1⟩=>
   obtain⟨d,e1,rfl,h1⟩:=Vc h1
   cases r1 with
   |cons r1 r2=>
    cases r1
    obtain⟨C,hC,q⟩:=m1 _ _ e1
    exact⟨a,C,_,rfl,by rw [bY.len r2];exact hl,T.ex C hC,q,k _ M1 h1 _ _ l1 m1 .non⟩⟩
def Jp (n f:Str) (te to:TD):bK:=fun D sl M=>te sl M fun y M1=>to sl M1 fun o M2=>match o with
 | .raw (.ref a)=>yP M2 a n fun d=>match d with
  |none=> ∀dx,M2 dx=none→dx≠a→D.nx sl (bD (bD M2 dx (.exd [(f,y)])) a (.exo n (some dx)))
  |some dx=>dx≠a∧Dd M2 dx fun fs=>fs.length≤900∧D.nx sl (bD M2 dx (.exd ((f,y)::fs)))
 |_=>False
theorem Yx (F:Cg X.K n f) (he:DE X e te) (ho:DE X o to) (hs:swapsWith e (some (.Attribute o f p')) pos.line X.env=pure false:=by rfl):DS X (.Assign [.Attribute o f p'] e pos) (Jp n f te to):=
 PS.imp (ps_ost ho he hs) fun D σ H ⟨sl,M,E,hs,hm,ht,kn,kr,kb,kc⟩=>⟨sl,M,_,hs,hm,ht,fun y M1 h1 v H1 l1 m1 r1=>⟨sl,M1,_,hs.sub l1,m1,h1,fun o M2 h2 ov H2 l2 m2 r2=>by
  have l:=l1.trans l2
  match o,h2 with
  | .raw (.ref a),h2=>
   obtain⟨d,e1,h2⟩:=Vc h2
   cases r2
   obtain⟨C,hC,q⟩:=m2 _ _ e1
   obtain⟨T,hno⟩:=F.ex C hC
   refine⟨a,C,rfl,T,hno,?_⟩
   match d,h2,e1,q with
   |none,h2,e1,q=>
    refine .inl ⟨q,fun dx n1 n2=> ?_⟩
    have h3:=h2 dx (oN m2 n1) n2
    have la:Le H2 M2 (upd H2 dx (exd dx [(f,v)])) (bD M2 dx (.exd [(f,y)])):=oF n1
    have ma:cD X.K (upd H2 dx (exd dx [(f,v)])) (bD M2 dx (.exd [(f,y)])):=xH (mo:= .exd [(f,y)]) m2 n1 ⟨_,upd_same,.cons ⟨rfl,r1.sub l2⟩ .nil⟩
    have ea:bD M2 dx (.exd [(f,y)]) a=some (.exo n none):=(fO (Ne.symm n2)).trans e1
    exact kn _ _ h3 σ _ ((l.trans la).trans (k_ ea)) (uw (mo:= .exo n (some dx)) ma ea ⟨C,hC,upd_same⟩) (((hs.sub l).sub la).sub (k_ ea))
   |some dx,⟨nd,h2⟩,e1,q=>
    obtain⟨fs,e2,hl,h2⟩:=afL h2
    obtain⟨vs,q2,q3⟩:=m2 _ _ e2
    have lw:Le H2 M2 (upd H2 dx (exd dx ((f,v)::vs))) (bD M2 dx (.exd ((f,y)::fs))):=k_ e2
    exact .inr ⟨dx,vs,q,q2,by rw [gJ.len q3];exact hl,kn _ _ h2 σ _ (l.trans lw) (uw (mo:= .exd ((f,y)::fs)) m2 e2 ⟨_,upd_same,.cons ⟨rfl,r1.sub l2⟩ q3⟩) ((hs.sub l).sub lw)⟩⟩⟩
structure zW (P:Program) (w:World) (K:PySem.W.Frag) (mg:Str→Option Value) (base:Heap) (n:Str) (k:Nat) (sp:dM):Prop where
 ex: ∃(C f:Addr) (fd:FuncData) (ps:List Str),mg n=some (.ref C)∧PySem.W.nsIn K mainGlobals n=some (some (.ref C))∧OexC K C∧PySem.W.findIn K (.ref C) "__init__" =some (some (.ref f))∧PySem.W.typeIn K (.ref f)=some (.type "function")∧bM P w K mg base CX0 k f fd ps (dO K sp)∧Binds K fd ps []
theorem V4 {α:Type}: ∀{fs:List (Str×α)} {p:Str×α},(fs.map (·.1)).Nodup→p∈fs→fs.lookup p.1=some p.2
 |q::fs,p,nd,h=>by
  obtain⟨n1,n2⟩:=List.nodup_cons.mp nd
  rcases List.mem_cons.mp h with rfl|h2
  ·simp [List.lookup]
  ·have ne:(p.1==q.1)=false:=by
    refine beq_eq_false_iff_ne.mpr fun z=>n1 ?_
    exact List.mem_map.mpr ⟨p,h2,z⟩
   obtain⟨q1,q2⟩:=q
   show(match p.1==q1 with|true=>some q2|false=>fs.lookup p.1)=some p.2
   rw [show(p.1==q1)=false from ne]
   exact V4 n2 h2
abbrev Bs (fs:List (Str×PyData)):List (Str×DV):=fs.map fun p=>(p.1,.d p.2)
theorem ahQ {K:PySem.W.Frag} {H:Hp} {vs:List (Str×V)} {fs:List (Str×PyData)} (r:gJ K H vs (Bs fs)) (nd:(fs.map (·.1)).Nodup): ∀p∈fs,∃v,vs.lookup p.1=some v∧RD K H v p.2:=fun p hp=>by
 have e:(Bs fs).lookup p.1=some (.d p.2):=V4 (p:=(p.1,DV.d p.2)) (by rw [List.map_map];exact nd) (List.mem_map.mpr ⟨p,hp,rfl⟩)
 rcases gJ.look p.1 r with⟨v,d,f1,f2,f3⟩|⟨_,f2⟩
 ·rw [e]at f2
  cases f2
  exact⟨v,f1,f3⟩
 ·rw [e]at f2
  cases f2
def VR (M1:Mem) (a:Addr) (n:Str) (G:List (Str×PyData)→Mem→Prop):KD:=fun v M2=>v= .d .none∧ ∃d fs,M2 a=some (.exo n (some d))∧M2 d=some (.exd (Bs fs))∧M1 d=none∧d≠a∧fs≠ []∧(fs.map (·.1)).Nodup∧G fs (cZ (cZ M2 a) d)
def Gy (n:Str) (sp:dM) (tas:eY) (sl:Slots) (M:Mem) (G:List (Str×PyData)→Mem→Prop):Prop:=
 tas sl M fun xs M1=>xs.length≤1000∧ ∀a,M1 a=none→sp (.raw (.ref a)::xs) (bD M1 a (.exo n none)) (VR M1 a n G)
structure tO (K:PySem.W.Frag) (H1 H2:Hp) (M1 M2:Mem) (a C d:Addr) (vs:List (Str×V)) (n:Str) (fs:List (Str×PyData)):Prop where
 nC:PySem.W.nsIn K mainGlobals n=some (some (.ref C))
 le:Le H1 M1 H2 M2
 m2:cD K H2 M2
 ea:M2 a=some (.exo n (some d))
 ed:M2 d=some (.exd (Bs fs))
 da:d≠a
 ha:H2 a=some (exo a C (some d))
 hd:H2 d=some (exd d vs)
 h1:H1 d=none
 rv:gJ K (hide H2 M2) vs (Bs fs)
 ne:fs≠ []
 nd:(fs.map (·.1)).Nodup
theorem tO.sub {K:PySem.W.Frag} {H1 H2 H3:Hp} {M1 M2:Mem} {a C d:Addr} {vs:List (Str×V)} {n:Str} {fs:List (Str×PyData)} (h:tO K H1 H2 M1 M2 a C d vs n fs) (e: ∀b,b≠a→b≠d→H3 b=H2 b):Le H2 M2 H3 (cZ (cZ M2 a) d):=fun b o q=>by
 have q1:=uf q
 have n1:b≠a:=fun z=>by rw [z,h.ea]at q1;cases q1
 have n2:b≠d:=fun z=>by rw [z,h.ed]at q1;cases q1
 refine oE ?_ ?_
 ·rw [e b n1 n2]
  exact d8 _ _ _ _ q
 ·rw [m9 n2,m9 n1]
  exact q1
theorem tO.rep {K:PySem.W.Frag} {H1 H2 H3:Hp} {M1 M2:Mem} {a C d:Addr} {vs:List (Str×V)} {n:Str} {fs:List (Str×PyData)} (h:tO K H1 H2 M1 M2 a C d vs n fs) (e: ∀b,b≠a→b≠d→H3 b=H2 b):cD K H3 (cZ (cZ M2 a) d):=fun b o q=>by
 have n2:b≠d:=fun z=>by rw [z]at q;unfold cZ at q;rw [if_pos rfl]at q;cases q
 rw [m9 n2]at q
 have n1:b≠a:=fun z=>by rw [z]at q;unfold cZ at q;rw [if_pos rfl]at q;cases q
 rw [m9 n1]at q
 exact(h.m2 b o q).mono (fun u z=>by rw [e b n1 n2];exact z) (h.sub e)
theorem tO.rf {K:PySem.W.Frag} {H1 H2 H3:Hp} {M1 M2:Mem} {a C d:Addr} {vs:List (Str×V)} {n:Str} {fs:List (Str×PyData)} (h:tO K H1 H2 M1 M2 a C d vs n fs) (e: ∀b,b≠a→b≠d→H3 b=H2 b) (h3:H3 d=some (.xd vs)):RF K (hide H3 (cZ (cZ M2 a) d)) (some d) fs:=by
 refine .inr ⟨d,vs,⟨h.ne,rfl⟩,oE h3 (by unfold cZ;rw [if_pos rfl]),fun p hp=> ?_⟩
 obtain⟨v,l,r⟩:=ahQ h.rv h.nd p hp
 exact⟨v,l,RD.sub (h.sub e) r⟩
theorem run_mk {pins:List (Addr×Obj)} {σ:L2.St} {H:Hp} {s:Shared} {k:Nat} {sp:dM} {sl:Slots} {M:Mem} {G:List (Str×PyData)→Mem→Prop} {Qv:Value→Shared→Prop} {x:Str} (D:zW X.prog X.w X.K X.mg X.base x k sp) (hgd:X.A.guards=some []) (hr:Room (k+1) X.A) (hg:Gl X x) (hdb:(x==("__debug__" :Str))=false)
  (ha:DA X (e::es) tas) (he:starEach (e::es) X.env=(false,eval e X.env)::starEach es X.env) (hpl:(backTo pos (starEach es X.env)).any (·.1)=false)
  (I:Inv X pins σ H s) (rs:fj X.K (hide H M) σ sl) (hm:cD X.K H M) (h:Gy x sp tas sl M G)
  (fin: ∀(H1 H2:Hp) (M1 M2:Mem) (a C d:Addr) (vs:List (Str×V)) (fs:List (Str×PyData)) (h1 hp2 h2:Heap) (g1 g2:Array GenState) (d1 d2:Drawn) (t1 t2:Nat) (os1 os2:OsState),Inv X pins σ H1 ⟨h1,g1,d1,t1,os1⟩→h1.objs.size≤a→(∀b o,h1.get? b=some o→hp2.get? b=some o)→Un (frs X.stack) [] (upd H1 a (exo a C none)) H2 hp2 h2→HOk X.prog X.w H2 h2→
   os2=os1→AllBare g2→OexC X.K C→Le H M H1 M1→tO X.K H1 H2 M1 M2 a C d vs x fs→G fs (cZ (cZ M2 a) d)→Inv X pins σ (upd H1 a (exo a C none)) ⟨hp2,g1,d1,t1,os1⟩→Qv (.ref a) ⟨h2,g2,d2,t2,os2⟩):
  wpAny (model X.prog X.w) X.A (eval (.Call (.Name x p) (e::es) [] pos) X.env) Qv X.xe s:=by
 obtain⟨C,fI,fd,ps,hmC,nC,T,iC,tI,F1,hb⟩:=D.ex
 obtain⟨nm,q,N,bs,bm,sn,sub,ab,col,dd,k0,k1,k2,k3,k5,hC,hbm⟩:=T.cls
 refine wpAny_Call_Name_kw (ld_glob I hg hmC (PySem.W.callWith_K (h₀:=X.base) I.ok.mod.kin T.kC (thn (ha.run pos pins s σ H _ I ⟨sl,M,_,rs,hm,h,fun xs M2 h2 us H2 l2 m2 r2=>(show(fun us H2=> ∃xs M2,Le H M H2 M2∧cD X.K H2 M2∧bY X.K (hide H2 M2) us xs∧xs.length≤1000∧ ∀a,M2 a=none→sp (.raw (.ref a)::xs) (bD M2 a (.exo x none)) (VR M2 a x G)) us H2 from⟨xs,M2,l2,m2,r2,h2⟩)⟩) ?_) he hpl) hdb)
 rintro us s1 ⟨vs,H1,I1,rv,xs,M1,l1,m1,r1,hz,h1⟩
 refine⟨I1.kIn,?_⟩
 show wpAny _ _ (call (.ref C) us) _ _ _
 obtain⟨hp,g,dr,tk,os⟩:=s1
 have hsz:hp.objs.size≤hp.objs.size+1:=Nat.le_succ _
 have hn:H1 (hp.objs.size+1)=none:=I1.hok.fresh hsz
 have kk: ∀b o,hp.get? b=some o→((hp.push (PySem.W.kdv_tup us)).push (PySem.HandSPX.excO C hp.objs.size)).get? b=some o:=fun b o e=>Heap.get?_push_of_some _ (Heap.get?_push_of_some _ e)
 have hget:((hp.push (PySem.W.kdv_tup us)).push (PySem.HandSPX.excO C hp.objs.size)).get? (hp.objs.size+1)=some (PySem.HandSPX.excO C hp.objs.size):=by heap_get
 have I2:=I1.laid (t':=tk) (a:=hp.objs.size+1) (o:=exo (hp.objs.size+1) C none) (h':=(hp.push (PySem.W.kdv_tup us)).push (PySem.HandSPX.excO C hp.objs.size)) kk hsz (exo_ok hget)
 generalize ea:hp.objs.size+1=a at hsz hn hget I2
 have lo:Le H1 M1 (upd H1 a (exo a C none)) (bD M1 a (.exo x none)):=oF hn
 have mo:cD X.K (upd H1 a (exo a C none)) (bD M1 a (.exo x none)):=xH (mo:= .exo x none) m1 hn ⟨C,nC,upd_same⟩
 have goal:dO X.K sp (V.ref a::vs) (upd H1 a (exo a C none)) (fun v H2=>v= .non∧ ∃M2 d ws fs,tO X.K H1 H2 M1 M2 a C d ws x fs∧G fs (cZ (cZ M2 a) d)) E0:=by
  refine⟨.raw (.ref a)::xs,_,_,.cons rfl (bY.sub lo r1),mo,h1 a (oN m1 hn),?_⟩
  rintro dv M3 ⟨rfl,d,fs,z1,z2,z3,z4,z5,z6,z7⟩ v H3 l3 m3 r3
  cases r3
  obtain⟨C',hC',qa⟩:=m3 _ _ z1
  cases nC.symm.trans hC'
  obtain⟨ws,qd,rws⟩:=m3 _ _ z2
  have hd1:H1 d=none:=by
   cases e:H1 d with
   |none=>rfl
   |some o=>
    have y:=l3 d o (lo d o (oE e z3))
    have:=uf y
    rw [z2]at this
    cases this
  exact⟨rfl,M3,d,ws,fs,⟨nC,lo.trans l3,m3,z1,z2,z4,qa,qd,hd1,rws,z5,z6⟩,z7⟩
 have r2:Vals (V.ref a::vs) (Value.ref a::us):= .cons rfl rv
 have hlen:(Value.ref a::us).length=ps.length:=r2.length.symm.trans (F1.len _ _ _ _ goal)
 have bd:=hb _ (Value.ref a::us) I2.kIn (by rw [List.append_nil];exact hlen)
 rw [List.append_nil]at bd
 have hus:us.length≤sizeLine:=by
  have e1:=rv.length
  have e2:=bY.len r1
  rw [←e1,e2,sizeLine_eq];omega
 refine wpAny_call (PySem.HandSPX.call_own F.excBase_ValueError (fun Y=>PySem.HandSPX.refsVE_contains Y bm hbm) (I1.kIn _ _ hC) (PySem.W.looks_findIn I1.kIn iC) (fun self=>PySem.W.bind_fn I1.kIn self tI) hus (by
  rw [ea]
  refine codeAny_mono (F1.run _ X.stack _ _ _ _ _ _ _ hgd (hr.make C us []) (I2.env0.make C us []) bd r2 goal) ?_
  intro r s' hq'
  match r,hq' with
  | .error er,hq'=>exact(pass0 (X:=X)) pins σ _ _ er s' I2 hq'
  | .ok (.ret u),hq'=>
   obtain⟨v,H2,os2,bare2,un2,hok2,rv2,ev,M2,d,ws,fs,mk,hG⟩:=hq'
   subst ev
   obtain⟨h2,g2,d2,t2,os'⟩:=s'
   exact⟨rv2,fin H1 H2 M1 M2 a C d ws fs hp _ h2 g g2 dr d2 tk t2 os os' I1 (by omega) kk un2 hok2 os2 bare2 T l1 mk hG I2⟩))
variable {W:WX} {Ex:XD}
def vP (Ex:XD) (n:Str) (sp:dM) (tas:eY):bK:=fun D sl M=>Gy n sp tas sl M fun fs M'=>Ex n fs sl M'
theorem BP {k:Nat} {sp:dM} {pos2:Pos} (D:zW X.prog X.w X.K X.mg X.base n k sp) (hc:X.calm=true) (tk:Takes X W) (xo:t_ X.K W Ex) (hgd:X.A.guards=some []) (hr:Room (k+1) X.A) (hg:Gl X n) (ha:DA X (e::es) tas) (hdb:(n==("__debug__" :Str))=false:=by decide)
  (he:starEach (e::es) X.env=(false,eval e X.env)::starEach es X.env:=by rfl) (hpl:(backTo pos (starEach es X.env)).any (·.1)=false:=by rfl):
  DS X (.Raise (some (.Call (.Name n p) (e::es) [] pos)) none pos2) (vP Ex n sp tas):=by
 refine PS.imp (ps_raise (t:=fun σ H Q=> ∃sl M G,fj X.K (hide H M) σ sl∧cD X.K H M∧Gy n sp tas sl M G∧ ∀H1 H2 M1 M2 a C d vs fs,Le H M H1 M1→tO X.K H1 H2 M1 M2 a C d vs n fs→G fs (cZ (cZ M2 a) d)→Q (.ref C) (some d) (upd (del H2 a) d (.xd vs))) hc tk ?_) ?_
 ·intro pins s σ H Q I ⟨sl,M,G,rs,hm,h,k⟩
  refine run_mk D hgd hr hg hdb ha he hpl I rs hm h fun H1 H2 M1 M2 a C d vs fs h1 hp2 h2 g1 g2 d1 d2 t1 t2 os1 os2 I1 hsz kk un hok eo bare T l1 mk hG I2=> ?_
  exact mk_end (raises_own T.exC T.tyC) I1 hsz kk un hok eo bare mk.ha mk.hd mk.h1 (k H1 H2 M1 M2 a C d vs fs l1 mk hG)
 ·rintro D σ H ⟨sl,M,E,rs,hm,ht,kn,kr,kb,kc⟩
  refine⟨sl,M,_,rs,hm,ht,fun H1 H2 M1 M2 a C d vs fs l1 mk hG=> ?_⟩
  have e: ∀b,b≠a→b≠d→upd (del H2 a) d (.xd vs) b=H2 b:=fun b n1 n2=>by rw [upd_ne n2,del_ne n1]
  exact xo n fs sl _ hG _ _ σ _ ((rs.sub (l1.trans mk.le)).sub (mk.sub e)) (mk.rep e) ⟨C,rfl,mk.nC,mk.rf e upd_same⟩
structure BW (K:PySem.W.Frag) (ns:List Str) (f:Str):Prop where
 ex: ∀n∈ns,∀C,PySem.W.nsIn K mainGlobals n=some (some (.ref C))→XfC K C∧PySem.W.findIn K (.ref C) f=some none
def JB (ns:List Str) (f:Str) (te:TD):TD:=fun sl M R=>te sl M fun x M1=>match x with
 | .err n fs=>n∈ns∧ ∃d,(f,d)∈fs∧R (.d d) M1
 |_=>False
theorem Vq {ns:List Str} (F:BW X.K ns f) (he:DE X e te) (hb:attributeBase e f X.env (eval e X.env)=eval e X.env:=by rfl):DE X (.Attribute e f pos) (JB ns f te):=by
 refine⟨fun pins s σ H Q I ⟨sl,M,R,rs,hm,ht,k⟩=> ?_⟩
 refine attr_of hb (thn (he.run pins s σ H _ I ⟨sl,M,_,rs,hm,ht,fun x M1 h1 v H1 l1 m1 r1=>(show(fun v H1=> ∃x M1,Le H M H1 M1∧cD X.K H1 M1∧RV X.K (hide H1 M1) v x∧(match x with
  | .err n fs=>n∈ns∧ ∃d,(f,d)∈fs∧R (.d d) M1
  |_=>False)) v H1 from⟨x,M1,l1,m1,r1,h1⟩)⟩) ?_)
 rintro u s1 ⟨v,H1,I1,rv,x,M1,l1,m1,r1,h1⟩
 match x,h1,r1 with
 | .err n fs,⟨hn,d,hd,h1⟩,r1=>
  obtain⟨a,C,dd,rfl,nC,q,rf⟩:=r1
  cases rv
  obtain⟨T,hno⟩:=F.ex n hn C nC
  rcases rf with⟨e0,_⟩|⟨d1,ws,⟨_,e0⟩,q2,rr⟩
  ·rw [e0]at hd;cases hd
  ·obtain⟨w,lw,rw'⟩:=rr (f,d) hd
   obtain⟨⟨oe,vs,e1,⟨z1,z2⟩,z3⟩,_⟩:=I1.hok a _ (d8 _ _ _ _ q)
   have hx:ObjOk X.prog X.w H1 s1.heap d1 (.xd ws):=I1.hok d1 _ (d8 _ _ _ _ q2)
   obtain⟨mA,hns,hr⟩:=hx
   obtain⟨od,ho,hl⟩:=lookIn_ns hns
   obtain⟨u,hu,ru⟩:=RelO.some_of (v:=w) (o:=mA f) (by rw [←lw];exact hr f)
   have J:PySem.W.InstAt s1.heap a oe C (some od):=⟨e1,z1,by unfold PySem.W.notCls;rw [z3]<;>rfl,by rw [z2,e0];exact ho⟩
   exact PySem.HandSPX.exc_get I1.kIn J T.ga T.gg T.exC (PySem.W.findObj_own T.hdC hno rfl (by rw [hl,hu])) (handed_of ru) ⟨w,H1,I1.tok _,ru,k _ M1 h1 _ _ l1 m1 rw'⟩
end
end DL
namespace DL
open PySem PySem.Spec PyProof.Rows L2
end DL
namespace DL
open PySem PySem.Spec PyProof.Rows L2
section
variable {X:Cx} {te:TD} {tas:eY} {pos:Pos}
def JZ:G2
 | .raw (.ref p),.raw (.ref q),M,R=>getL M p fun xs=>getL M q fun ys=>xs.length+ys.length≤sizeLine∧ ∀r,M r=none→R (.raw (.ref r)) (bD M r (.lst (xs++ys)))
 |_,_,_,_=>False
theorem adg:iW X (binaryOp .Add) JZ:=by
 intro pins s σ H x y v u Q I rx ry hh
 obtain⟨dx,dy,M,R,hm,r1,r2,hg,k⟩:=hh
 unfold JZ at hg
 split at hg
 ·obtain⟨xs,e1,hg⟩:=oZ hg
  obtain⟨ys,e2,hg⟩:=oZ hg
  cases r1
  cases r2
  obtain⟨vs,h1,q1⟩:=hm _ _ e1
  obtain⟨ws,h2,q2⟩:=hm _ _ e2
  have l1:=bY.len q1
  have l2:=bY.len q2
  exact op_cat pins s σ H _ _ v u Q I rx ry ⟨_,_,_,_,rfl,rfl,h1,h2,by rw [l1,l2];exact hg.1,fun p n=>k _ _ (hg.2 p (oN hm n)) _ _ (oF n) (Fp hm n (bY.append q1 q2)) rfl⟩
 ·exact hg.elim
end
end DL
namespace DL
open PySem PySem.Spec PyProof.Rows L2
mutual
theorem Xf (w w':World): ∀k:NestedKey,zE k=true→k.hash w=k.hash w'
 | .none,_=>rfl
 | .num _,_=>rfl
 | .text _,h=>by cases h
 | .tup ks,h=>by
  have e:=Wq w w' ks (by simpa only [zE]using h)
  simp only [NestedKey.hash,e]
theorem Wq (w w':World): ∀ks:List NestedKey,wR ks=true→NestedKey.hashes w ks=NestedKey.hashes w' ks
 | [],_=>rfl
 |k::ks,h=>by
  have h':zE k=true∧wR ks=true:=by simpa only [wR,Bool.and_eq_true]using h
  simp only [NestedKey.hashes,Xf w w' k h'.1,Wq w w' ks h'.2]
end
theorem Xm {k:NestedKey} (h:jV k=true): ∃ks,k= .tup ks∧zE k=true∧k.depth≤8:=by
 cases k with
 |tup ks=>
  have h':wR ks=true∧NestedKey.depthAll ks≤7:=by simpa only [jV,Bool.and_eq_true,decide_eq_true_eq]using h
  exact⟨ks,rfl,by simpa only [zE]using h'.1,by simp only [NestedKey.depth];omega⟩
 |none=>cases h
 |num i=>cases h
 |text x=>cases h
theorem afm {k:NestedKey} (h:uL k=true): ∃k':Key,k=qj k':=by
 cases k with
 |num i=>exact⟨.inl i,rfl⟩
 |text x=>exact⟨.inr x,rfl⟩
 |none=>cases h
 |tup ks=>cases h
theorem aee (k:Key):uL (qj k)=true:=by cases k<;>rfl
theorem Kd {k k':Key} (h:qj k=qj k'):k=k':=by
 cases k<;>cases k'<;>cases h<;>rfl
theorem Vm {k:NestedKey} (h:uL k=true) (h':jV k=true):False:=by
 cases k with
 |tup ks=>cases h
 |none=>cases h
 |num i=>cases h'
 |text x=>cases h'
section
variable {X:Cx} {pins:List (Addr×Obj)} {σ:L2.St} {H:Hp} {s:Shared} {M:Mem}
mutual
theorem Ys (I:Inv X pins σ H s) {H0:Hp} (hs:Sub H0 H): ∀(k:NestedKey) {v:V} {u:Value},RD X.K H0 v k.data→RelV v u→NestedIs s.heap k u
 | .none,v,u,r,q=>by
  simp only [NestedKey.data]at r
  cases r
  cases q
  exact .none
 | .num i,v,u,r,q=>by
  simp only [NestedKey.data]at r
  cases r
  obtain⟨t,rfl⟩:=q
  exact .int _ _
 | .text x,v,u,r,q=>by
  simp only [NestedKey.data]at r
  cases r
  obtain⟨t,rfl⟩:=q
  exact .text _ _
 | .tup ks,v,u,r,q=>by
  simp only [NestedKey.data]at r
  cases r with
  |tup h1 r1=>
   cases q
   obtain⟨its,rv,⟨o,ho,hc,n,hd⟩,_⟩:=I.tuple (jZ hs h1.t)
   exact .tup ho hc hd (Yl I hs ks r1 (by simpa using rv))
theorem Yl (I:Inv X pins σ H s) {H0:Hp} (hs:Sub H0 H): ∀(ks:List NestedKey) {vs:List V} {us:List Value},cI X.K H0 vs (NestedKey.datas ks)→Vals vs us→NestedAll s.heap ks us
 | [],vs,us,r,q=>by
  simp only [NestedKey.datas]at r
  cases r
  cases q
  exact .nil
 |k::ks,vs,us,r,q=>by
  simp only [NestedKey.datas]at r
  cases r with
  |cons r1 r2=>
   cases q with
   |cons q1 q2=>exact .cons (Ys I hs k r1 q1) (Yl I hs ks r2 q2)
end
theorem TF (I:Inv X pins σ H s) {H0:Hp} (hs:Sub H0 H) {k:NestedKey} (hk:jV k=true) {v:V} (r:RD X.K H0 v k.data): ∃b,v= .ref b∧(nestedKind X.prog X.w).is s.heap k b:=by
 obtain⟨ks,rfl,_,hd⟩:=Xm hk
 have r':=r
 simp only [NestedKey.data]at r'
 cases r' with
 |tup h1 r1=>exact⟨_,rfl,Ys I hs _ r rfl,hd⟩
theorem aeF {K:PySem.W.Frag} {H0:Hp} {k:Key} {v:V} (r:RD K H0 v (qj k).data):v=kV k:=by
 cases k with
 |inl i=>cases (show RD K H0 v (.int i)from r);rfl
 |inr x=>cases (show RD K H0 v (.str x)from r);rfl
def G4 (K:PySem.W.Frag) (H H0:Hp) (a:Addr) (kvs:List (NestedKey×DV)):Prop:=(∃vs,Rd H a (.dK vs)∧mY K H0 vs kvs)∨ ∃kas,Rd H a (yV a kas)∧lQ K H0 kas kvs
abbrev tZ:=Paired (fun(p:NestedKey×Addr×V) (q:NestedKey×Addr×Value)=>p.1=q.1∧p.2.1=q.2.1∧RelV p.2.2 q.2.2)
def zD (kvs:List (NestedKey×PyData)):List (NestedKey×DV):=kvs.map fun p=>(p.1,.d p.2)
theorem YS {K:PySem.W.Frag} {H0:Hp}: ∀{vs:List (Key×V)} {kvs:List (NestedKey×PyData)},wZ K H0 vs kvs→mY K H0 vs (zD kvs)
 |_,_,.nil=> .nil
 |_,_,.cons h t=> .cons h (YS t)
theorem Ws {K:PySem.W.Frag} {H0:Hp}: ∀{vs:List (NestedKey×Addr×V)} {kvs:List (NestedKey×PyData)},vY K H0 vs kvs→lQ K H0 vs (zD kvs)
 |_,_,.nil=> .nil
 |_,_,.cons h t=> .cons h (Ws t)
theorem RZ.rd {K:PySem.W.Frag} {H0:Hp} (hs:Sub H0 H) {a:Addr} {kvs:List (NestedKey×PyData)} (h:RZ K H0 a kvs):G4 K H H0 a (zD kvs):=by
 rcases h with⟨o,vs,e,r⟩|⟨o,vs,e,r⟩
 ·exact .inl ⟨vs,.inr ⟨o,hs _ _ e⟩,YS r⟩
 ·exact .inr ⟨vs,.inr ⟨o,hs _ _ e⟩,Ws r⟩
theorem Xr {K:PySem.W.Frag} {H0:Hp} {a:Addr} {kvs:List (NestedKey×DV)} (h:RO K H H0 a (.dn kvs)):G4 K H H0 a kvs:=by
 rcases h with⟨vs,e,r⟩|⟨vs,e,r⟩
 ·exact .inl ⟨vs,.inl e,r⟩
 ·exact .inr ⟨vs,.inl e,r⟩
theorem Xi {P:Program} {w w0:World} {x:NestedKey×Addr×Value} (h:jV x.1=true):entryOfKey (nestedKind P w) x=(⟨x.1.hash w0,.ref x.2.1,x.2.2⟩:DictEntry):=by
 obtain⟨ks,e,hn,_⟩:=Xm h
 show(⟨x.1.hash w,.ref x.2.1,x.2.2⟩:DictEntry)=_
 rw [Xf w w0 x.1 hn]
theorem Yj {kas:List (NestedKey×Addr×V)} {xs:List (NestedKey×Addr×Value)} (r:tZ kas xs) (h: ∀p∈kas,jV p.1=true): ∀x∈xs,jV x.1=true:=by
 induction r with
 |nil=>intro x hx;cases hx
 |cons a t ih=>
  intro x hx
  rcases List.mem_cons.mp hx with rfl|hx
  ·rw [←a.1];exact h _ List.mem_cons_self
  ·exact ih (fun p hp=>h p (List.mem_cons_of_mem _ hp)) x hx
def fits {α:Type} (kvs:List (NestedKey×α)) (k:NestedKey):Prop:=(uL k=true∧ ∀p∈kvs,uL p.1=true)∨(jV k=true∧ ∀p∈kvs,jV p.1=true)
theorem Y9 (I:Inv X pins σ H s) {p:Addr} {kas:List (NestedKey×Addr×V)} (h:Rd H p (yV p kas)):kas.length≤sizeLine∧(p==sysModules)=false∧(∀q∈kas,jV q.1=true)∧ ∃(w0:World) (xs:List (NestedKey×Addr×Value)),tZ kas xs∧
  ∃o es ep,s.heap.get? p=some o∧o.ExactDict∧o.data= .dict es ep∧es.toList=xs.map (fun x=>(⟨x.1.hash w0,.ref x.2.1,x.2.2⟩:DictEntry))∧(xs.map (·.1)).Nodup:=(h.ok I.hok).1
theorem Yd {K:PySem.W.Frag} {H0:Hp}: ∀{kas:List (NestedKey×Addr×V)} {kvs:List (NestedKey×DV)} {xs:List (NestedKey×Addr×Value)},lQ K H0 kas kvs→tZ kas xs→ ∀x∈xs,∃k v,x.1=k∧RD K H0 (.ref x.2.1) k.data∧(k,v)∈kvs
 |_,_,_,.nil,.nil,x,hx=>by cases hx
 |_,_,_,.cons a t,.cons b u,x,hx=>by
  rcases List.mem_cons.mp hx with rfl|hx
  ·exact⟨_,_,b.1.symm.trans a.1,by rw [←b.2.1];exact a.2.1,List.mem_cons_self⟩
  ·obtain⟨k,v,e1,e2,e3⟩:=Yd t u x hx
   exact⟨k,v,e1,e2,List.mem_cons_of_mem _ e3⟩
theorem ag0 (I:Inv X pins σ H s) {H0:Hp} (hs:Sub H0 H) {p:Addr} {kvs:List (NestedKey×DV)} (h:G4 X.K H H0 p kvs) (hk: ∀q∈kvs,jV q.1=true):
  kvs.length≤sizeLine∧(p==sysModules)=false∧ ∃kas xs,lQ X.K H0 kas kvs∧tZ kas xs∧s.heap.DictOfH (nestedKind X.prog X.w) p xs:=by
 rcases h with⟨vs,e,r⟩|⟨kas,e,r⟩
 ·have en:kvs= []:=by
   cases r with
   |nil=>rfl
   |cons a t=>exact(Vm (by rw [a.1];exact aee _) (hk _ List.mem_cons_self)).elim
  subst en
  cases r
  obtain⟨z,hd,us,rel,o,es,ep,h1,h2,h3,_,h4,_⟩:=e.ok I.hok
  cases rel
  have ee:es.toList= []:=by
   have q:=h4.length
   cases e':es.toList with
   |nil=>rfl
   |cons x l=>rw [e']at q;cases q
  exact⟨Nat.zero_le _,hd,[],[],.nil,.nil,o,es,ep,h1,h2,h3,ee,fun x hx=>(by cases hx),List.nodup_nil⟩
 ·obtain⟨hl,hd,hka,w0,xs,rr,o,es,ep,h1,h2,h3,h4,h5⟩:=Y9 I e
  refine⟨by rw [←Paired.length r];exact hl,hd,kas,xs,r,rr,o,es,ep,h1,h2,h3,?_,fun x hx=> ?_,h5⟩
  ·rw [h4]
   exact List.map_congr_left fun x hx=>(Xi (Yj rr hka x hx)).symm
  ·obtain⟨k,v,e1,e2,e3⟩:=Yd r rr x hx
   obtain⟨b,eb,hb⟩:=TF I hs (hk _ e3) e2
   cases eb
   rw [e1]
   exact hb
theorem aiu (I:Inv X pins σ H s) {H0:Hp} {p:Addr} {kvs:List (NestedKey×DV)} (h:G4 X.K H H0 p kvs) (hk: ∀q∈kvs,uL q.1=true):
  kvs.length≤sizeLine∧(p==sysModules)=false∧ ∃vs us,mY X.K H0 vs kvs∧KV vs us∧s.heap.DictOf (mixKind X.prog X.w) p us:=by
 rcases h with⟨vs,e,r⟩|⟨kas,e,r⟩
 ·obtain⟨z,hd,us,rel,dd⟩:=e.ok I.hok
  exact⟨by rw [←Paired.length r];exact z,hd,vs,us,r,rel,dd⟩
 ·obtain⟨hl,hd,hka,w0,xs,rr,o,es,ep,h1,h2,h3,h4,h5⟩:=Y9 I e
  have en:kvs= []:=by
   cases r with
   |nil=>rfl
   |cons a t=>exact(Vm (hk _ List.mem_cons_self) (by rw [←a.1];exact hka _ List.mem_cons_self)).elim
  subst en
  cases r
  cases rr
  have ee:es= #[]:=by
   cases es with
   |mk l=>simp only [List.map_nil]at h4;subst h4;rfl
  subst ee
  exact⟨Nat.zero_le _,hd,[],[],.nil,.nil,o,#[],ep,h1,h2,h3,(fun i hi=>by simp at hi),.nil,List.nodup_nil⟩
theorem Za {K:PySem.W.Frag} {H0:Hp} (k:Key): ∀{vs:List (Key×V)} {kvs:List (NestedKey×DV)} {us:List (Key×Value)},mY K H0 vs kvs→KV vs us→
  (∃u v d,valueAt us k=some u∧je kvs (qj k)=some d∧RelV v u∧RV K H0 v d)∨(valueAt us k=none∧je kvs (qj k)=none)
 | [],_,_,.nil,.nil=> .inr ⟨rfl,rfl⟩
 |p::vs,q::kvs,y::us,.cons h t,.cons g u=>by
  have e1:valueAt (y::us) k=if y.1=k then some y.2 else valueAt us k:=by
   unfold valueAt
   by_cases z:y.1=k
   ·rw [List.find?_cons_of_pos (by exact decide_eq_true z),if_pos z];rfl
   ·rw [List.find?_cons_of_neg (by simpa using z),if_neg z]
  rw [e1,Mf,←g.1,h.1]
  by_cases z:p.1=k
  ·rw [if_pos z,if_pos (by rw [z])]
   exact .inl ⟨_,p.2,_,rfl,rfl,g.2,h.2⟩
  ·rw [if_neg z,if_neg (fun e=>z (Kd e))]
   exact Za k t u
theorem Uw {K:PySem.W.Frag} {H0:Hp} (k:NestedKey): ∀{kas:List (NestedKey×Addr×V)} {kvs:List (NestedKey×DV)} {xs:List (NestedKey×Addr×Value)},lQ K H0 kas kvs→tZ kas xs→
  (∃z v d,atKey xs k=some z∧je kvs k=some d∧RelV v z.2∧RV K H0 v d)∨(atKey xs k=none∧je kvs k=none)
 | [],_,_,.nil,.nil=> .inr ⟨rfl,rfl⟩
 |p::kas,q::kvs,y::xs,.cons h t,.cons g u=>by
  have e1:atKey (y::xs) k=if y.1=k then some y.2 else atKey xs k:=by
   unfold atKey
   by_cases z:y.1=k
   ·rw [List.find?_cons_of_pos (by exact decide_eq_true z),if_pos z];rfl
   ·rw [List.find?_cons_of_neg (by simpa using z),if_neg z]
  rw [e1,Mf,←g.1,←h.1]
  by_cases z:p.1=k
  ·rw [if_pos z,if_pos z]
   exact .inl ⟨_,p.2.2,_,rfl,rfl,g.2.2,h.2.2⟩
  ·rw [if_neg z,if_neg z]
   exact Uw k t u
def sY (kas:List (NestedKey×Addr×V)) (k:NestedKey) (b:Addr) (v:V):List (NestedKey×Addr×V):=
 if (kas.any fun p=>decide (p.1=k))=true then kas.map (fun p=>if p.1=k then(p.1,p.2.1,v)else p)else kas++ [(k,b,v)]
theorem XC {K:PySem.W.Frag} {H0:Hp} (k:NestedKey): ∀{kas:List (NestedKey×Addr×V)} {kvs:List (NestedKey×DV)},lQ K H0 kas kvs→(kas.any fun p=>decide (p.1=k))=(kvs.any fun p=>decide (p.1=k))
 |_,_,.nil=>rfl
 |_,_,.cons h t=>by rw [List.any_cons,List.any_cons,XC k t,h.1]
theorem Vv (k:NestedKey): ∀{kas:List (NestedKey×Addr×V)} {xs:List (NestedKey×Addr×Value)},tZ kas xs→(kas.any fun p=>decide (p.1=k))=(atKey xs k).isSome
 |_,_,.nil=>rfl
 |p::_,y::xs,.cons h t=>by
  rw [List.any_cons,Vv k t]
  unfold atKey
  by_cases z:y.1=k
  ·rw [List.find?_cons_of_pos (by exact decide_eq_true z),h.1,decide_eq_true z];rfl
  ·rw [List.find?_cons_of_neg (by simpa using z),h.1,decide_eq_false z];rfl
theorem Ez {α β:Type} {F G:α→β→Prop} {f:α→α} {g:β→β}: ∀{l:List α} {r:List β},Paired F l r→(∀a b,F a b→G (f a) (g b))→Paired G (l.map f) (r.map g)
 |_,_,.nil,_=> .nil
 |_,_,.cons h t,q=> .cons (q _ _ h) (Ez t q)
theorem Ii {α β:Type} {F:α→β→Prop} {a:α} {b:β} (h:F a b): ∀{l:List α} {r:List β},Paired F l r→Paired F (l++ [a]) (r++ [b])
 |_,_,.nil=> .cons h .nil
 |_,_,.cons q t=> .cons q (Ii h t)
theorem agU {K:PySem.W.Frag} {H0:Hp} {kas:List (NestedKey×Addr×V)} {kvs:List (NestedKey×DV)} {k:NestedKey} {b:Addr} {v:V} {d:DV} (r:lQ K H0 kas kvs) (hb:RD K H0 (.ref b) k.data) (rv:RV K H0 v d):lQ K H0 (sY kas k b v) (vU kvs k d):=by
 unfold sY vU
 rw [XC k r]
 split
 ·refine Ez r fun p q h=> ?_
  by_cases z:p.1=k
  ·rw [if_pos z,if_pos (h.1▸z)]
   exact⟨h.1,h.2.1,rv⟩
  ·rw [if_neg z,if_neg (fun y=>z (h.1.trans y))]
   exact h
 ·exact Ii ⟨rfl,hb,rv⟩ r
theorem agt {kas:List (NestedKey×Addr×V)} {xs:List (NestedKey×Addr×Value)} {k:NestedKey} {b:Addr} {v:V} {u:Value} (r:tZ kas xs) (rv:RelV v u):tZ (sY kas k b v) (storedH xs k b u):=by
 unfold sY storedH
 rw [Vv k r]
 split
 ·refine Ez r fun p q h=> ?_
  unfold putAt
  by_cases z:p.1=k
  ·rw [if_pos z,if_pos (h.1▸z)]
   exact⟨h.1,h.2.1,rv⟩
  ·rw [if_neg z,if_neg (fun y=>z (h.1.trans y))]
   exact h
 ·exact Ii ⟨rfl,rfl,rv⟩ r
theorem af5 (kas:List (NestedKey×Addr×V)) (k:NestedKey) (b:Addr) (v:V):(sY kas k b v).length≤kas.length+1:=by
 unfold sY
 split
 ·rw [List.length_map];omega
 ·rw [List.length_append];exact Nat.le_refl _
theorem ag9 {kas:List (NestedKey×Addr×V)} {k:NestedKey} {b:Addr} {v:V} (h: ∀p∈kas,jV p.1=true) (hk:jV k=true): ∀p∈sY kas k b v,jV p.1=true:=by
 intro p hp
 unfold sY at hp
 split at hp
 ·obtain⟨q,hq,e⟩:=List.mem_map.mp hp
  have hk':=h q hq
  rw [←e]
  split
  ·exact hk'
  ·exact hk'
 ·rcases List.mem_append.mp hp with hp|hp
  ·exact h p hp
  ·rw [List.mem_singleton.mp hp];exact hk
theorem V7 {K:PySem.W.Frag} {H0:Hp} (k:Key): ∀{vs:List (Key×V)} {kvs:List (NestedKey×DV)},mY K H0 vs kvs→(vs.any fun p=>decide (p.1=k))=(kvs.any fun p=>decide (p.1=qj k))
 |_,_,.nil=>rfl
 |p::_,_,.cons h t=>by
  rw [List.any_cons,List.any_cons,V7 k t,h.1]
  by_cases z:p.1=k
  ·rw [decide_eq_true z,decide_eq_true (by rw [z])]
  ·rw [decide_eq_false z,decide_eq_false (fun e=>z (Kd e))]
theorem afG {K:PySem.W.Frag} {H0:Hp} {vs:List (Key×V)} {kvs:List (NestedKey×DV)} {k:Key} {v:V} {d:DV} (r:mY K H0 vs kvs) (rv:RV K H0 v d):mY K H0 (putK vs k v) (vU kvs (qj k) d):=by
 unfold putK vU
 rw [V7 k r]
 split
 ·refine Ez r fun p q h=> ?_
  by_cases z:p.1=k
  ·rw [if_pos z,if_pos (by rw [h.1,z])]
   exact⟨h.1,rv⟩
  ·rw [if_neg z,if_neg (fun y=>z (Kd (h.1.symm.trans y)))]
   exact h
 ·exact Ii ⟨rfl,rv⟩ r
end
end DL
namespace DL
open PySem PySem.Spec PyProof.Rows L2
section
variable {X:Cx} {pins:List (Addr×Obj)} {σ:L2.St} {H:Hp} {s:Shared} {M:Mem} {n:Nat} {A:Around} {E:Value→Shared→Prop}
theorem agu (hu:A.units+9<cLine):(nestedKind X.prog X.w).room A.in1:=by
 show A.in1.units+8<cLine
 rw [Around.in1_units]
 omega
theorem acz {P:Program} {w:World} {H:Hp} {h:Heap} {a:Addr} {kas:List (NestedKey×Addr×V)} {xs:List (NestedKey×Addr×Value)} (hl:kas.length≤sizeLine) (hs:(a==sysModules)=false) (hk: ∀p∈kas,jV p.1=true) (r:tZ kas xs) (dd:h.DictOfH (nestedKind P w) a xs):ObjOk P w H h a (yV a kas):=by
 obtain⟨o,es,ep,h1,h2,h3,h4,_,h5⟩:=dd
 refine⟨⟨hl,hs,hk,w,xs,r,o,es,ep,h1,h2,h3,?_,h5⟩,⟨o,h1⟩,fun _ _ ⟨a1,a2,a3,w0,xs,r,o,es,ep,b1,b2⟩ k=>⟨a1,a2,a3,w0,xs,r,o,es,ep,k o b1,b2⟩⟩
 rw [h4]
 exact List.map_congr_left fun x hx=>Xi (Yj r hk x hx)
theorem Zf {K:PySem.W.Frag} {H0:Hp} {p:Addr} {kvs:List (NestedKey×DV)} (h:RO K H H0 p (.dn kvs)):Mut (H p):=by
 rcases h with⟨vs,e,_⟩|⟨vs,e,_⟩
 ·rw [e];exact True.intro
 ·rw [e];exact True.intro
theorem ah6 {K:PySem.W.Frag} {H0:Hp} {vs:List (Key×V)} {kvs:List (NestedKey×DV)} (r:mY K H0 vs kvs):vs.length=kvs.length:=Paired.length r
theorem acZ {K:PySem.W.Frag} {H0:Hp} {vs:List (NestedKey×Addr×V)} {kvs:List (NestedKey×DV)} (r:lQ K H0 vs kvs):vs.length=kvs.length:=Paired.length r
structure Put (X:Cx) (pins:List (Addr×Obj)) (σ:L2.St) (H:Hp) (M:Mem) (s:Shared) (p:Addr) (kvs:List (NestedKey×DV)) (y:V) (u:Value) (k:NestedKey) (v:V) (w:Value) (d:DV):Prop where
 I:Inv X pins σ H s
 ro:RO X.K H (hide H M) p (.dn kvs)
 ry:RelV y u
 rk:RD X.K (hide H M) y k.data
 rv:RelV v w
 rd:RV X.K (hide H M) v d
 fit:fits kvs k
 len:kvs.length<sizeLine
theorem Xx {K:PySem.W.Frag} {H0:Hp}: ∀{kas:List (NestedKey×Addr×V)} {kvs:List (NestedKey×DV)},lQ K H0 kas kvs→(∀q∈kvs,jV q.1=true)→ ∀q∈kas,jV q.1=true
 |_,_,.nil,_,q,hq=>by cases hq
 |_,_,.cons a t,h,q,hq=>by
  rcases List.mem_cons.mp hq with rfl|hq
  ·rw [a.1];exact h _ List.mem_cons_self
  ·exact Xx t (fun p hp=>h p (List.mem_cons_of_mem _ hp)) q hq
section
variable {p:Addr} {kvs:List (NestedKey×DV)} {y:V} {u:Value} {k:NestedKey} {v:V} {w:Value} {d:DV}
theorem Put.flat (P:Put X pins σ H M s p kvs y u k v w d) (hk:uL k=true) (ha: ∀q∈kvs,uL q.1=true): ∃k' us,y=kV k'∧us.length≤sizeLine∧(p==sysModules)=false∧s.heap.DictOf (mixKind X.prog X.w) p us∧((∃u' v' d',valueAt us k'=some u'∧je kvs k=some d'∧RelV v' u'∧RV X.K (hide H M) v' d')∨(valueAt us k'=none∧je kvs k=none))∧ ∀(h':Heap) (t':Nat),h'.DictOf (mixKind X.prog X.w) p (stored us k' w)→Heap.SameBut p s.heap h'→
  ∃ho,Inv X pins σ (upd H p ho) {s with heap:=h',toks:=t'}∧RO X.K (upd H p ho) (hide H M) p (.dn (vU kvs k d)):=by
 obtain⟨k',rfl⟩:=afm hk
 have hl:=P.len
 obtain⟨z,hd,vs,us,rn,rel,dd⟩:=aiu P.I (Xr P.ro) ha
 have l1:=ah6 rn
 have l2:vs.length=us.length:=rel.length
 refine⟨k',us,aeF P.rk,by omega,hd,dd,Za k' rn rel,fun h' t' dd' sb=>⟨.dK (putK vs k' v),?_,.inl ⟨_,upd_same,afG rn P.rd⟩⟩⟩
 have he: ∃q,h'.get? p=some q:=let ⟨q,_,_,hq,_⟩:=dd';⟨q,hq⟩
 exact d_write P.I (Zf P.ro) sb he (dk_new (by have:=length_putK vs k' v;omega) hd (rel.put k' P.rv) dd')
theorem Put.tup (P:Put X pins σ H M s p kvs y u k v w d) (hk:jV k=true) (ha: ∀q∈kvs,jV q.1=true): ∃b xs,y= .ref b∧u= .ref b∧(nestedKind X.prog X.w).is s.heap k b∧xs.length≤sizeLine∧(p==sysModules)=false∧s.heap.DictOfH (nestedKind X.prog X.w) p xs∧((∃z v' d',atKey xs k=some z∧je kvs k=some d'∧RelV v' z.2∧RV X.K (hide H M) v' d')∨(atKey xs k=none∧je kvs k=none))∧
  ∀(h':Heap) (t':Nat),h'.DictOfH (nestedKind X.prog X.w) p (storedH xs k b w)→Heap.SameBut p s.heap h'→ ∃ho,Inv X pins σ (upd H p ho) {s with heap:=h',toks:=t'}∧RO X.K (upd H p ho) (hide H M) p (.dn (vU kvs k d)):=by
 have hl:=P.len
 obtain⟨z,hd,kas,xs,rn,rel,dd⟩:=ag0 P.I (d8 _ _) (Xr P.ro) ha
 obtain⟨b,rfl,hb⟩:=TF P.I (d8 _ _) hk P.rk
 have l1:=acZ rn
 have l2:kas.length=xs.length:=Paired.length rel
 refine⟨b,xs,rfl,P.ry,hb,by omega,hd,dd,Uw k rn rel,fun h' t' dd' sb=>⟨yV p (sY kas k b v),?_,.inr ⟨_,upd_same,agU rn P.rk P.rd⟩⟩⟩
 have he: ∃q,h'.get? p=some q:=let ⟨q,_,_,hq,_⟩:=dd';⟨q,hq⟩
 exact d_write P.I (Zf P.ro) sb he (acz (by have:=af5 kas k b v;omega) hd (ag9 (Xx rn ha) hk) (agt rel P.rv) dd')
theorem Put.set {Q:Unit→Shared→Prop} (hu:A.units+9<cLine) (P:Put X pins σ H M s p kvs y u k v w d) (hq: ∀ho s',Inv X pins σ (upd H p ho) s'→RO X.K (upd H p ho) (hide H M) p (.dn (vU kvs k d))→Q () s'):wpAny (model X.prog X.w) A (setItem (.ref p) u w) Q E s:=by
 rcases P.fit with⟨hk,ha⟩|⟨hk,ha⟩
 ·obtain⟨k',us,rfl,hz,hd,dd,_,go⟩:=P.flat hk ha
  exact wpAny_setItem_pairs (hsz:=hz) (kV_is P.ry) dd fun h' dd' sb=>let ⟨ho,I',ro⟩:=go h' _ dd' sb;hq ho _ I' ro
 ·obtain⟨b,xs,rfl,rfl,hb,hz,hd,dd,_,go⟩:=P.tup hk ha
  exact wpAny_setItem_heap (hsz:=hz) (agu hu) hb dd fun h' dd' sb=>let ⟨ho,I',ro⟩:=go h' _ dd' sb;hq ho _ I' ro
end
end
end DL
namespace DL
open PySem PySem.Spec PyProof.Rows L2
end DL
namespace DL
open PySem PySem.Spec PyProof.Rows L2
end DL
namespace DL
open PySem PySem.Spec PyProof.Rows L2 LamX
open NdefX (NScope CellsAt startF ncx inv_startN NF)
structure KJ (P:Program) (w:World) (K:PySem.W.Frag) (mg:Str→Option Value) (base:Heap) (k:Nat) (T:List (Str×Addr)→Addr→xG) (fr:List Str) (np:Nat) (sp:List (Str×Addr)→dM):Prop where
 len: ∀cl xs M R,sp cl xs M R→xs.length=np+fr.length
 wd: ∀cl c,(T cl c).cl=cl∧(T cl c).c=c
 run: ∀(cl:List (Str×Addr)) (c:Addr) (f:Addr) (A:Around) (outer:List Env) (s:Shared) (H:Hp) (us:List Value) (vs cs:List V) (Q:VK) (E:XK),A.guards=some []→Room k A→Env0 P w K mg base A outer s H→H f=some (FnH f (T cl c))→H c=some (CodeO c (T cl c).qual)→
  CellsAt cl fr (cs.map some) s.heap H→Vals vs us→vs.length=np→dO K (sp cl) (vs++cs) H Q E→codeAny (model P w) A (.call (.ref f) ⟨us,[]⟩) (CR CX0 outer P w H s Q E) s
section
variable {P:Program} {w:World} {K:PySem.W.Frag} {mg:Str→Option Value} {base:Heap} {k j:Nat} {T:List (Str×Addr)→Addr→xG} {fr:List Str} {np:Nat} {sp:List (Str×Addr)→dM}
theorem KJ.mono (o:KJ P w K mg base j T fr np sp) (h:j≤k):KJ P w K mg base k T fr np sp:=⟨o.len,o.wd,fun cl c f A outer s H us vs cs Q E hg hr=>o.run cl c f A outer s H us vs cs Q E hg (hr.mono h)⟩
end
end DL
namespace DL
open PySem PySem.Spec PyProof.Rows L2 LamX
end DL
namespace DL
open PySem PySem.Spec PyProof.Rows L2 LamX
end DL
namespace DL
open PySem PySem.Spec PyProof.Rows L2 LamX
section
variable {P:Program} {w:World} {K:PySem.W.Frag} {mg:Str→Option Value} {base:Heap}
structure Ig (K:PySem.W.Frag) (x qual:Str) (st:Stmt) (dV:Value) (c:Addr) (f:Addr) (fd:FuncData):Prop where
 ex: ∃(oc:Value) (od:Option Addr) (kV doc pm:Value) (an:Option Addr) (ct:Value) (osl:Array (Option Value)),
  fd=PySem.W.fnOf x qual (defArgs st) (defBody st) (defScope st) dV kV doc pm an (.ref c) ct∧K.lookup f=some ⟨oc,od,.func fd,osl⟩∧PySem.W.codeIn K (.ref c) qual=true
 kp:PySem.W.keepIn K (.ref f)=true
theorem Ig.data {x qual:Str} {st:Stmt} {dV:Value} {c f:Addr} {fd:FuncData} {N ps:List Str} {k:Nat} {sp:dM} (F:Ig K x qual st dV c f fd) (S:FnScope N ps (defScope st)) (len: ∀xs M R,sp xs M R→xs.length=ps.length) (t:List (Str×Addr)→bK)
  (hbody: ∀(A:Around) (outer:List Env) (s:Shared) (H:Hp) (E:XK),A.guards=some []→Room k (A.deeper (envOfC qual (defScope st) s.heap.objs.size f (.ref c)))→
   mK (cxOf CX0 P w K mg base N qual (defScope st) f (.ref c) A outer s H E).nox (defBody st) (t (cellsFrom (s.heap.objs.size+1) (defScope st).names [])))
  (pure: ∀n xs M R,sp xs M R→t (cellsFrom n (defScope st).names []) {nx:=fun _ M'=>R (.d .none) M',rt:=R} (dD N xs) M):bM P w K mg base CX0 (k+1) f fd ps (dO K sp):=by
 obtain⟨oc,od,kV,doc,pm,an,ct,osl,rfl,lk,hcd⟩:=F.ex
 refine Ey lk hcd S (fun vs H Q E ⟨xs,M,R,rv,_,hs,_⟩=>(bY.len rv).trans (len xs M R hs)) fun A outer s H vs Q E hg hr ⟨xs,M,R,rv,hm,hs,k⟩=>⟨Bx K (t _),(hbody A outer s H E hg hr).nox,?_⟩
 exact⟨_,M,_,GX N rv,hm,pure _ xs M R hs,fun sl M' h σ' H' l m r=>k _ M' h _ H' l m .non,k,fun _ _ z=>z.elim,fun _ _ z=>z.elim⟩
end
end DL
namespace DL
open PySem PySem.Spec PyProof.Rows L2 LamX
end DL
namespace DL
open PySem PySem.Spec PyProof.Rows L2 LamX
end DL
namespace DL
open PySem PySem.Spec PyProof.Rows L2 LamX
variable {X:Cx}
def Lq (kds:List (Key×PyData)) (k:Key) (d:PyData):List (Key×PyData):=
 if (kds.any fun kv=>decide (kv.1=k))=true then kds.map (fun kv=>if kv.1=k then(kv.1,d)else kv)else kds++ [(k,d)]
def ad7 (kds more:List (Key×PyData)):List (Key×PyData):=more.foldl (fun acc kv=>Lq acc kv.1 kv.2) kds
abbrev Wu (kds:List (Key×PyData)):List (PyData×PyData):=kds.map fun p=>(keyD p.1,p.2)
theorem XS: ∀{k l:Key},keyD k=keyD l→k=l
 | .inl _,.inl _,e=>by cases e;rfl
 | .inr _,.inr _,e=>by cases e;rfl
 | .inl _,.inr _,e=>by cases e
 | .inr _,.inl _,e=>by cases e
inductive jy (K:PySem.W.Frag) (H:Hp):List (Key×V)→List (Key×PyData)→Prop
 |nil:jy K H [] []
 |cons {k:Key} {v:V} {kvs:List (Key×V)} {d:PyData} {kds:List (Key×PyData)}:RD K H v d→jy K H kvs kds→jy K H ((k,v)::kvs) ((k,d)::kds)
theorem jy.of {K:PySem.W.Frag} {H:Hp}: ∀{kvs:List (Key×V)} {kds:List (Key×PyData)},jj K H kvs (Wu kds)→jy K H kvs kds
 | [],[],_=> .nil
 | [],_::_,h=>nomatch h
 |_::_,[],h=>nomatch h
 |(k,v)::kvs,(l,d)::kds,h=>by
  have h':jj K H ((k,v)::kvs) ((keyD l,d)::Wu kds):=h
  generalize e:keyD l=y at h'
  cases h' with
  |cons h1 h2=>
   have:=XS e
   subst this
   exact .cons h1 (jy.of h2)
theorem jy.any {K:PySem.W.Frag} {H:Hp} {kvs:List (Key×V)} {kds:List (Key×PyData)} (h:jy K H kvs kds) (k:Key):(kvs.any fun kv=>decide (kv.1=k))=(kds.any fun kv=>decide (kv.1=k)):=by
 induction h with
 |nil=>rfl
 |cons _ _ ih=>rw [List.any_cons,List.any_cons,ih]
theorem jy.snoc {K:PySem.W.Frag} {H:Hp} {kvs:List (Key×V)} {kds:List (Key×PyData)} (h:jy K H kvs kds) {k:Key} {v:V} {d:PyData} (r:RD K H v d):jy K H (kvs++ [(k,v)]) (kds++ [(k,d)]):=by
 induction h with
 |nil=>exact .cons r .nil
 |cons h1 _ ih=>exact .cons h1 ih
theorem jy.over {K:PySem.W.Frag} {H:Hp} {kvs:List (Key×V)} {kds:List (Key×PyData)} (h:jy K H kvs kds) {k:Key} {v:V} {d:PyData} (r:RD K H v d):jy K H (kvs.map fun kv=>if kv.1=k then(kv.1,v)else kv) (kds.map fun kv=>if kv.1=k then(kv.1,d)else kv):=by
 induction h with
 |nil=>exact .nil
 | @cons l w kvs e kds h1 _ ih=>
  rw [List.map_cons,List.map_cons]
  by_cases q:l=k
  ·rw [if_pos q,if_pos q]
   exact .cons r ih
  ·rw [if_neg q,if_neg q]
   exact .cons h1 ih
theorem jy.put {K:PySem.W.Frag} {H:Hp} {kvs:List (Key×V)} {kds:List (Key×PyData)} (h:jy K H kvs kds) {k:Key} {v:V} {d:PyData} (r:RD K H v d):jy K H (putK kvs k v) (Lq kds k d):=by
 unfold putK Lq
 rw [h.any k]
 split
 ·exact h.over r
 ·exact h.snoc r
theorem jy.merge {K:PySem.W.Frag} {H:Hp} {more:List (Key×V)} {mds:List (Key×PyData)} (m:jy K H more mds): ∀{kvs:List (Key×V)} {kds:List (Key×PyData)},jy K H kvs kds→jy K H (mergeK kvs more) (ad7 kds mds):=by
 induction m with
 |nil=>exact fun h=>h
 |cons h1 _ ih=>exact fun h=>ih (h.put h1)
end DL
namespace DL
open PySem PySem.Spec PyProof.Rows L2 LamX
end DL
namespace DL
open PySem PySem.Spec PyProof.Rows L2 LamX
open NdefX (NScope CellsAt startF ncx inv_startN NF Caps cells_of slotAt slotAt_of)
end DL
namespace DL
open PySem PySem.Spec PyProof.Rows L2
end DL
namespace DL
open PySem PySem.Spec PyProof.Rows L2 LamX
section
variable {P:Program} {w:World} {K:PySem.W.Frag} {mg:Str→Option Value} {base:Heap}
theorem Ig.dataX {x qual:Str} {st:Stmt} {dV:Value} {cC f:Addr} {fd:FuncData} {N ps:List Str} {k:Nat} {sp:fV} (F:Ig K x qual st dV cC f fd) (S:FnScope N ps (defScope st)) (len: ∀xs M R RX,sp xs M R RX→xs.length=ps.length) (c:Nat) (t:List (Str×Addr)→XD→bK)
  (hbody: ∀(A:Around) (outer:List Env) (s:Shared) (H:Hp) (E:XK) (Ex:XD),A.guards=some []→Room k (A.deeper (envOfC qual (defScope st) s.heap.objs.size f (.ref cC)))→
   Takes (cxOf (L2.CX P w) P w K mg base N qual (defScope st) f (.ref cC) A outer s H E) (fun cls d _ H'=>E cls d H')→t_ K (fun cls d _ H'=>E cls d H') Ex→
   PassesOwn (model P w) (cxOf (L2.CX P w) P w K mg base N qual (defScope st) f (.ref cC) A outer s H E).A (cxOf (L2.CX P w) P w K mg base N qual (defScope st) f (.ref cC) A outer s H E).env (cxOf (L2.CX P w) P w K mg base N qual (defScope st) f (.ref cC) A outer s H E).xe→
   mK (cxOf (L2.CX P w) P w K mg base N qual (defScope st) f (.ref cC) A outer s H E) (defBody st) (t (cellsFrom (s.heap.objs.size+1) (defScope st).names []) Ex))
  (pure: ∀n xs M R RX,sp xs M R RX→ ∀B,t (cellsFrom n (defScope st).names []) (fun n fs sl M'=>iY c B sl∧RX n fs M') {nx:=fun _ M'=>R (.d .none) M',rt:=R} (jx c B (dD N xs)) M):bM P w K mg base (L2.CX P w) (k+1) f fd ps (gA K sp):=by
 obtain⟨oc,od,kV,doc,pm,an,ct,osl,rfl,lk,hcd⟩:=F.ex
 refine Ey lk hcd S (fun vs H Q E ⟨xs,M,R,RX,rv,_,hs,_⟩=>(bY.len rv).trans (len xs M R RX hs)) fun A outer s H vs Q E hg hr ⟨xs,M,R,RX,rv,hm,hs,k,kx⟩=> ?_
 refine⟨_,hbody A outer s H E (fun n fs sl M'=>iY c (hide H M) sl∧RX n fs M') hg hr (takes_of rfl rfl rfl rfl) ?_ (passes_of rfl),?_⟩
 ·rintro n fs sl M' ⟨wb,hx⟩ cls d σ' H' rs rm ea
  exact kx n fs M' hx cls d H' (K_ rs wb) rm ea
 ·exact⟨_,M,_,JH (GX N rv) c,hm,pure _ xs M R RX hs (hide H M),fun sl M' h σ' H' l m r=>k _ M' h _ H' l m .non,k,fun _ _ z=>z.elim,fun _ _ z=>z.elim⟩
end
end DL
namespace DL
open PySem PySem.Spec PyProof.Rows L2
section
variable {X:Cx} {CX:CXT} {k:Nat} {f:Addr} {fd:FuncData} {ps:List Str} {sp:Sp} {E:L2.St→XK} {ds:List Value} {dvs:List V}
theorem Xu {pins:List (Addr×Obj)} {σ:L2.St} {H:Hp} {s:Shared} {Q:VK} {us:List Value} {vs:List V} (hgd:X.A.guards=some []) (F:bM X.prog X.w X.K X.mg X.base CX k f fd ps sp) (hr:Room k X.A) (hb:Binds X.K fd ps ds) (hd:Vals dvs ds) (hx:PassesAt CX X σ (E σ))
  (I:Inv X pins σ H s) (r:Vals vs us) (h:sp (vs++dvs) H Q (E σ)):wpAny (model X.prog X.w) X.A (call (.ref f) us) (EP X pins σ Q) X.xe s:=by
 have both:Vals (vs++dvs) (us++ds):=r.append hd
 have many:(us++ds).length=ps.length:=both.length.symm.trans (F.len _ _ _ _ h)
 refine wpAny_call (codeAny_mono (F.run X.A X.stack s H ⟨us,[]⟩ _ _ Q (E σ) hgd hr I.env0 (hb s us I.kIn many) both h) ?_)
 intro r s' z
 match r,z with
 | .error e,z=>exact hx pins H s e s' I z
 | .ok (.ret u),z=>exact I.after z
end
structure dX (P:Program) (w:World) (K:PySem.W.Frag) (mg:Str→Option Value) (base:Heap) (n m:Str) (k:Nat) (sp:fV):Prop where
 ex: ∃(C f:Addr) (fd:FuncData) (ps:List Str) (spF:fV) (ds:List Value) (dvs:List V) (xds:List DV),PySem.W.nsIn K mainGlobals n=some (some (.ref C))∧Cls K C∧Meth K C m f∧bM P w K mg base (L2.CX P w) k f fd ps (gA K spF)∧
  Binds K fd ps ds∧Vals dvs ds∧(∀H,bY K H dvs xds)∧ ∀xs M R RX,sp xs M R RX→spF (xs++xds) M R RX
theorem dX.of {P:Program} {w:World} {K:PySem.W.Frag} {mg:Str→Option Value} {base:Heap} {n m:Str} {k:Nat} {sp:fV} {C f:Addr} {fd:FuncData} {ps:List Str} (hC:PySem.W.nsIn K mainGlobals n=some (some (.ref C))) (cl:Cls K C) (me:Meth K C m f)
  (F:bM P w K mg base (L2.CX P w) k f fd ps (gA K sp)) (b:Binds K fd ps []):dX P w K mg base n m k sp:=⟨⟨C,f,fd,ps,sp,[],[],[],hC,cl,me,F,b,.nil,fun _=> .nil,fun xs M R RX h=>by rw [List.append_nil];exact h⟩⟩
def fu (Ex:XD) (n m:Str) (sp:fV) (to:TD) (tas:eY):TD:=fun sl M R=>to sl M fun o M1=>match o with
 | .raw (.ref a)=>nj M1 a n fun fs=>fs.lookup m=none∧tas sl M1 fun xs M2=>sp (.raw (.ref a)::xs) M2 R fun c gs M3=>Ex c gs sl M3
 |_=>False
section
variable {X:Cx} {e o:Expr} {es:List Expr} {to te:TD} {tas:eY} {pos apos:Pos} {n f m:Str} {k:Nat} {sp:fV} {W:WX} {Ex:XD}
theorem dX.de {pl:Sem Bool} (D:dX X.prog X.w X.K X.mg X.base n m k sp) (tk:Takes X W) (xo:t_ X.K W Ex) (hgd:X.A.guards=some []) (hr:Room k X.A) (ho:DE X o to) (ha:DA X (e::es) tas)
  (hst:starEach (e::es) X.env=(false,eval e X.env)::starEach es X.env:=by rfl) (hpl:(backTo pos (starEach es X.env)).any (·.1)=false:=by rfl)
  (ht:eval (.Call (.Attribute o m apos) (e::es) [] pos) X.env=(do
   let ov←eval o X.env
   standAt apos.atName
   let (g,first)←holding [ov] (getMethod ov m pl)
   callWith pos g first (backTo pos (starEach (e::es) X.env)) (backToKw pos (keywordEach [] X.env))):=by rfl):
  DE X (.Call (.Attribute o m apos) (e::es) [] pos) (fu Ex n m sp to tas):=by
 obtain⟨C,g,fd,ps,spF,ds,dvs,xds,hC,cl,me,F,hb,hv,hxd,hi⟩:=D.ex
 refine⟨fun pins s σ H Q I ⟨sl,M,R,rs,hm,hh,kk⟩=> ?_⟩
 refine PySem.W.methodCall_KW (pl:=pl) (thn (ho.run pins s σ H _ I ⟨sl,M,_,rs,hm,hh,fun x M1 h1 v H1 l1 m1 r1=>(show(fun v H1=> ∃x M1,Le H M H1 M1∧cD X.K H1 M1∧RV X.K (hide H1 M1) v x∧(match x with
  | .raw (.ref a)=>nj M1 a n fun fs=>fs.lookup m=none∧tas sl M1 fun xs M2=>sp (.raw (.ref a)::xs) M2 R fun c gs M3=>Ex c gs sl M3
  |_=>False)) v H1 from⟨x,M1,l1,m1,r1,h1⟩)⟩) ?_) ht
 rintro ov s1 ⟨v,H1,I1,rv,x,M1,l1,m1,r1,h1⟩
 split at h1
 case h_2=>exact h1.elim
 rename_i a
 obtain⟨fs,e1,hl,h1⟩:=vh h1
 cases r1
 cases rv
 obtain⟨C',dx,vs,hC',q1,q2⟩:=m1 _ _ e1
 cases hC.symm.trans hC'
 have away:vs.lookup m=none:=by
  rcases gJ.look m q2 with⟨_,_,_,f2,_⟩|⟨f1,_⟩
  ·rw [hl]at f2;cases f2
  ·exact f1
 refine getmeth_ok I1 q1 cl me away (PySem.W.callWith_K (first:= [.ref a]) (h₀:=X.base) I1.ok.mod.kin me.kp (thn (ha.run pos pins s1 σ H1 _ I1 ⟨sl,M1,_,rs.sub l1,m1,h1,fun xs M2 h2 us H2 l2 m2 r2=>(show(fun us H2=> ∃xs M2,Le H1 M1 H2 M2∧cD X.K H2 M2∧bY X.K (hide H2 M2) us xs∧sp (.raw (.ref a)::xs) M2 R fun c gs M3=>Ex c gs sl M3) us H2 from⟨xs,M2,l2,m2,r2,h2⟩)⟩) ?_) hst hpl)
 rintro ws s2 ⟨us,H2,I2,ru,xs,M2,l2,m2,r2,h2⟩
 have goal:gA X.K spF ((V.ref a::us)++dvs) H2 Q (WE W σ):=⟨(.raw (.ref a)::xs)++xds,M2,R,_,bY.append (.cons rfl r2) (hxd _),m2,hi _ _ _ _ h2,kk.le (l1.trans l2),fun c gs M3 hq cls d H3 l3 m3 ea=>xo c gs sl M3 hq cls d σ H3 (rs.sub ((l1.trans l2).trans l3)) m3 ea⟩
 exact⟨I2.kIn,Xu (E:=WE W) (us:= .ref a::ws) (vs:= .ref a::us) hgd F hr hb hv (passAt tk σ) I2 (.cons rfl ru) goal⟩
theorem dX.de0 {pl:Sem Bool} (D:dX X.prog X.w X.K X.mg X.base n m k sp) (tk:Takes X W) (xo:t_ X.K W Ex) (hgd:X.A.guards=some []) (hr:Room k X.A) (ho:DE X o to)
  (ht:eval (.Call (.Attribute o m apos) [] [] pos) X.env=(do
   let ov←eval o X.env
   standAt apos.atName
   let (g,first)←holding [ov] (getMethod ov m pl)
   callWith pos g first (backTo pos (starEach [] X.env)) (backToKw pos (keywordEach [] X.env))):=by rfl):
  DE X (.Call (.Attribute o m apos) [] [] pos) (fu Ex n m sp to aH):=by
 obtain⟨C,g,fd,ps,spF,ds,dvs,xds,hC,cl,me,F,hb,hv,hxd,hi⟩:=D.ex
 refine⟨fun pins s σ H Q I ⟨sl,M,R,rs,hm,hh,kk⟩=> ?_⟩
 refine PySem.W.methodCall_KW (pl:=pl) (thn (ho.run pins s σ H _ I ⟨sl,M,_,rs,hm,hh,fun x M1 h1 v H1 l1 m1 r1=>(show(fun v H1=> ∃x M1,Le H M H1 M1∧cD X.K H1 M1∧RV X.K (hide H1 M1) v x∧(match x with
  | .raw (.ref a)=>nj M1 a n fun fs=>fs.lookup m=none∧aH sl M1 fun xs M2=>sp (.raw (.ref a)::xs) M2 R fun c gs M3=>Ex c gs sl M3
  |_=>False)) v H1 from⟨x,M1,l1,m1,r1,h1⟩)⟩) ?_) ht
 rintro ov s1 ⟨v,H1,I1,rv,x,M1,l1,m1,r1,h1⟩
 split at h1
 case h_2=>exact h1.elim
 rename_i a
 obtain⟨fs,e1,hl,h1⟩:=vh h1
 cases r1
 cases rv
 obtain⟨C',dx,vs,hC',q1,q2⟩:=m1 _ _ e1
 cases hC.symm.trans hC'
 have away:vs.lookup m=none:=by
  rcases gJ.look m q2 with⟨_,_,_,f2,_⟩|⟨f1,_⟩
  ·rw [hl]at f2;cases f2
  ·exact f1
 have r0:bY X.K (hide H1 M1) [V.ref a] [DV.raw (.ref a)]:= .cons rfl .nil
 have h2:sp [DV.raw (.ref a)] M1 R fun c gs M3=>Ex c gs sl M3:=h1
 have goal:gA X.K spF ([V.ref a]++dvs) H1 Q (WE W σ):=⟨[.raw (.ref a)]++xds,M1,R,_,bY.append r0 (hxd _),m1,hi _ _ _ _ h2,kk.le l1,fun c gs M3 hq cls d H3 l3 m3 ea=>xo c gs sl M3 hq cls d σ H3 (rs.sub (l1.trans l3)) m3 ea⟩
 exact getmeth_ok I1 q1 cl me away (PySem.W.callWith_K0 (first:= [.ref a]) I1.kIn me.kp (Xu (E:=WE W) (us:= [.ref a]) (vs:= [.ref a]) hgd F hr hb hv (passAt tk σ) I1 (.cons rfl .nil) goal))
end
structure G3 (P:Program) (w:World) (K:PySem.W.Frag) (mg:Str→Option Value) (base:Heap) (n:Str) (k:Nat) (sp:fV):Prop where
 ex: ∃(C f:Addr) (fd:FuncData) (ps:List Str),mg n=some (.ref C)∧PySem.W.nsIn K mainGlobals n=some (some (.ref C))∧Mk K C f∧bM P w K mg base (L2.CX P w) k f fd ps (gA K sp)∧Binds K fd ps []
def KZ (Ex:XD) (n:Str) (sp:fV) (tas:eY):TD:=fun sl M R=>tas sl M fun xs M1=> ∀x,M1 x=none→sp (.raw (.ref x)::xs) (bD M1 x (.ins n [])) (fun v M2=>v= .d .none∧R (.raw (.ref x)) M2) fun c gs M3=>Ex c gs sl M3
section
variable {X:Cx} {e:Expr} {es:List Expr} {tas:eY} {pos:Pos} {k:Nat} {sp:fV} {W:WX} {Ex:XD}
theorem G3.de {x:Str} {p:Pos} (D:G3 X.prog X.w X.K X.mg X.base x k sp) (tk:Takes X W) (xo:t_ X.K W Ex) (hgd:X.A.guards=some []) (hr:Room (k+1) X.A) (hg:Gl X x) (ha:DA X (e::es) tas) (hdb:(x==("__debug__" :Str))=false:=by decide)
  (he:starEach (e::es) X.env=(false,eval e X.env)::starEach es X.env:=by rfl) (hpl:(backTo pos (starEach es X.env)).any (·.1)=false:=by rfl):DE X (.Call (.Name x p) (e::es) [] pos) (KZ Ex x sp tas):=by
 obtain⟨C,g,fd,ps,hmC,hC,mk,F,hb⟩:=D.ex
 refine⟨fun pins s σ H Q I ⟨sl,M,R,rs,hm,hh,kk⟩=> ?_⟩
 refine wpAny_Call_Name_kw (ld_glob I hg hmC (PySem.W.callWith_K (h₀:=X.base) I.ok.mod.kin mk.kp (thn (ha.run pos pins s σ H _ I ⟨sl,M,_,rs,hm,hh,fun xs M2 h2 us H2 l2 m2 r2=>(show(fun us H2=> ∃xs M2,Le H M H2 M2∧cD X.K H2 M2∧bY X.K (hide H2 M2) us xs∧(∀x',M2 x'=none→sp (.raw (.ref x')::xs) (bD M2 x' (.ins x [])) (fun v M3=>v= .d .none∧R (.raw (.ref x')) M3) fun c gs M3=>Ex c gs sl M3)) us H2 from⟨xs,M2,l2,m2,r2,h2⟩)⟩) ?_) he hpl) hdb)
 rintro us s1 ⟨vs,H1,I1,rv,xs,M1,l1,m1,r1,h1⟩
 refine⟨I1.kIn,?_⟩
 have nx:H1 (s1.heap.objs.size+1)=none:=I1.hok.fresh (Nat.le_succ _)
 have nd:H1 s1.heap.objs.size=none:=I1.hok.fresh (Nat.le_refl _)
 have ne:s1.heap.objs.size≠s1.heap.objs.size+1:=Nat.ne_of_lt (Nat.lt_succ_self _)
 have lm:=H_ (M:=M1) (C:=C) (n:=x) nx nd ne
 have hsp:=h1 _ (oN m1 nx)
 have I2:=Inv.made (C:=C) I1
 have rr:Vals (V.ref (s1.heap.objs.size+1)::vs) (Value.ref (s1.heap.objs.size+1)::us):= .cons rfl rv
 have goal:gA X.K sp (V.ref (s1.heap.objs.size+1)::vs) (upd (upd H1 s1.heap.objs.size (.own (s1.heap.objs.size+1))) (s1.heap.objs.size+1) (.ins C s1.heap.objs.size [])) (fun v H2=>v= .non∧Q (.ref (s1.heap.objs.size+1)) H2) (WE W σ):=by
  refine⟨.raw (.ref (s1.heap.objs.size+1))::xs,_,_,_,.cons rfl (bY.sub lm r1),Ls m1 hC nx nd ne,hsp,?_,?_⟩
  ·rintro d M3 ⟨rfl,hq⟩ v H3 l3 m3 r3
   cases r3
   exact⟨rfl,kk _ M3 hq _ _ ((l1.trans lm).trans l3) m3 rfl⟩
  ·exact fun c gs M3 hq cls d H3 l3 m3 ea=>xo c gs sl M3 hq cls d σ H3 (rs.sub ((l1.trans lm).trans l3)) m3 ea
 have hlen:(Value.ref (s1.heap.objs.size+1)::us).length=ps.length:=rr.length.symm.trans (F.len _ _ _ _ goal)
 have bd:=hb _ (Value.ref (s1.heap.objs.size+1)::us) I2.kIn (by rw [List.append_nil];exact hlen)
 rw [List.append_nil]at bd
 refine wpAny_call (make_map (f:=g) I1.kIn mk.makes mk.init (beq_iff_eq.mp mk.fn) (codeAny_mono (F.run _ X.stack _ _ _ _ _ _ _ hgd (hr.make C us []) (I2.env0.make C us []) bd rr goal) ?_))
 intro r s' hq
 match r,hq with
 | .error er,hq=>exact passAt tk σ pins _ _ er s' I2 hq
 | .ok (.ret u),hq=>
  obtain⟨v,H',I3,rv',ev,q3⟩:=I2.after hq
  subst ev
  exact⟨rv',⟨V.ref (s1.heap.objs.size+1),H',I3,rfl,q3⟩⟩
end
section
variable {X:Cx} {o e:Expr} {to te:TD} {n f:Str} {pos tpos:Pos}
def Jf (g:Int→Int→Int):V→V→Hp→VK→Prop:=fun x y H Q=> ∃i j,x= .int i∧y= .int j∧Q (.int (g i j)) H
def pF (n f:Str) (g:Int→Int→Int) (to te:TD):bK:=fun D sl M=>to sl M fun o M1=>match o with
 | .raw (.ref a)=>nj M1 a n fun fs=>fK (fs.lookup f) fun v=>te sl M1 fun y M2=>match v,y with
  | .d (.int i),.d (.int j)=>nj M2 a n fun gs=>gs.length<900∧D.nx sl (bD M2 a (.ins n (putN f (.d (.int (g i j))) gs)))
  |_,_=>False
 |_=>False
theorem uZ {op:Operator} {g:Int→Int→Int} (F:fB X.K n f) (ho:DE X o to) (he:DE X e te) (hop:InOp X op (Jf g)):DS X (.AugAssign (.Attribute o f tpos) op e pos) (pF n f g to te):=
 PS.imp (ps_fldaug ho he hop) fun D σ H ⟨sl,M,E,hs,hm,ht,kn,kr,kb,kc⟩=>⟨sl,M,_,hs,hm,ht,fun x M1 h1 v H1 l1 m1 r1=>by
  split at h1
  case h_2=>exact h1.elim
  rename_i a
  obtain⟨fs,e1,h1⟩:=vh h1
  obtain⟨w,e2,h1⟩:=iK h1
  cases r1
  obtain⟨C,dx,vs,hC,q1,q2⟩:=m1 _ _ e1
  obtain⟨c1,c2⟩:=F.ex C hC
  rcases gJ.look f q2 with⟨v',d',f1,f2,f3⟩|⟨_,f1⟩
  case inr=>rw [e2]at f1;cases f1
  rw [e2]at f2
  cases f2
  refine⟨a,C,dx,vs,v',rfl,q1,c1,c2,f1,sl,M1,_,hs.sub l1,m1,h1,fun y M2 h2 u H2 l2 m2 r2=> ?_⟩
  split at h2
  case h_2=>exact h2.elim
  rename_i i j
  obtain⟨gs,e3,hl,h3⟩:=vh h2
  cases f3
  cases r2
  obtain⟨C',dx',vs',hC',q1',q2'⟩:=m2 _ _ e3
  cases hC.symm.trans hC'
  have l:=l1.trans l2
  have le:Le H2 M2 (upd H2 a (.ins C dx' (putF f (.int (g i j)) vs'))) (bD M2 a (.ins n (putN f (.d (.int (g i j))) gs))):=k_ e3
  exact⟨i,j,rfl,rfl,dx',vs',q1',by rw [gJ.len q2'];omega,kn _ _ h3 σ _ (l.trans le) (uw (mo:= .ins n (putN f (.d (.int (g i j))) gs)) m2 e3 ⟨C,dx',_,hC,upd_same,gJ.put (show RV X.K _ (V.int (g i j)) (.d (.int (g i j)))from RD.int _) q2'⟩) ((hs.sub l).sub le)⟩⟩
def Jd (neg:Bool):G2:=fun y x M R=>Ba neg y x M R∨JD neg y x M R
theorem ad1 {a b:Expr} {ta tb:TD} {neg:Bool} {σ:L2.St} {H:Hp} {Q:VK} (h:iD X.K (aA (Jd neg) ta tb) σ H Q):
  iD X.K ta σ H fun y H1=>iD X.K tb σ H1 fun x H2=> ∃a o,x= .ref a∧DGet H2 a y o∧Q (.bl (if neg then !o.isSome else o.isSome)) H2:=by
 obtain⟨sl,M,R,hs,hm,ht,k⟩:=h
 refine⟨sl,M,_,hs,hm,ht,fun y M1 h1 v H1 l1 m1 r1=>⟨sl,M1,_,hs.sub l1,m1,h1,fun x M2 h2 u H2 l2 m2 r2=> ?_⟩⟩
 have r1:=RV.sub l2 r1
 rcases h2 with h2|h2
 ·unfold Ba at h2
  split at h2
  case h_2=>exact h2.elim
  obtain⟨kk,e1,h2⟩:=iK h2
  have ey:=acQ (K:=X.K) r1 e1
  cases r2 with
  |dct q1 q2=>
   rcases jj.look (key:=kk) q2 with⟨d',v',f1,f2,f3⟩|⟨f1,f2⟩<;>rw [f1]at h2
   ·exact⟨_,some v',rfl,.inl ⟨_,kk,.inl (d8 _ _ _ _ q1),ey,f2.symm⟩,k _ M2 h2 _ H2 (l1.trans l2) m2 (.bl _)⟩
   ·exact⟨_,none,rfl,.inl ⟨_,kk,.inl (d8 _ _ _ _ q1),ey,f2.symm⟩,k _ M2 h2 _ H2 (l1.trans l2) m2 (.bl _)⟩
 ·obtain⟨p,kk,kvs,rfl,e1,e2,h2⟩:=afO h2
  cases r2
  obtain⟨vs,q1,q2⟩:=m2 _ _ e2
  rw [←ahJ q2]at h2
  exact⟨p,valV vs kk,rfl,.inl ⟨_,kk,.inl q1,Ep r1 e1,rfl⟩,k _ M2 h2 _ H2 (l1.trans l2) m2 (.bl _)⟩
theorem ae5 {a b:Expr} {ta tb:TD} {n:Nat} (hr:Room n X.A) (ha:DE X a ta) (hb:DE X b tb) (hm:behindInMarks .NotIn b=false:=by rfl):DT X (.Compare a [.NotIn] [b] pos) (dB (aA (Jd true) ta tb)):=
 PT.imp (pt_cmp (pc_dnotin (by have:=hr.units;omega) ha hb) hm) fun σ H Q h=>ad1 (a:=a) (b:=b) (JG h)
theorem Bo:InOp X .Add (Jf fun i j=>i+j):=in_add
theorem KQ:InOp X .Sub (Jf fun i j=>i-j):=in_sub
end
end DL
namespace DL
open PySem PySem.Spec PyProof.Rows L2
def VF:V→List V→Hp→VK→Prop:=fun x vs H Q=> ∃l b xs ys,x= .ref l∧vs= [.ref b]∧l≠b∧H l=some (.dK xs)∧H b=some (.dK ys)∧xs.length+ys.length≤sizeLine∧Q .non (upd H l (.dK (mergeK xs ys)))
section
variable {X:Cx}
theorem acO:MtR X "dict.update" VF:=by
 intro pins s σ H x vs v us Q I rx rv h
 obtain⟨l,b,xs,ys,rfl,rfl,hne,hH,hB,hz,q⟩:=h
 cases rx
 obtain⟨u,rfl,ru⟩:=rv.one
 cases ru
 obtain⟨z1,n1,vs1,r1,d1⟩:=dk_of I.hok hH
 obtain⟨z2,n2,vs2,r2,d2⟩:=dk_of I.hok hB
 refine call_meetsIn PySem.F.slot_dict_update d1.typeIs PySem.F.entry_dict_update (PySem.F.args_dict_update_2 _ _) (meets_dict_update (mixKind X.prog X.w) l b hne n2) ⟨_,_,d1,d2,by rw [←r1.length,←r2.length];exact hz,fun h' dd' _ hs=> ?_⟩
 have he: ∃q,h'.get? l=some q:=let ⟨q,_,_,hq,_⟩:=dd';⟨q,hq⟩
 have hl:=length_mergeK ys xs
 exact⟨.non,_,d_write (t':=s.toks) I (by rw [hH];exact True.intro) hs he (dk_new (Nat.le_trans hl hz) n1 (KV.merge r2 r1) dd'),rfl,q⟩
variable {o e a b c:Expr} {to te ta tb tc:TD} {pos:Pos}
def Yr (kds:List (PyData×PyData)) (more:List (Key×PyData)):Prop:=kds=more.map fun p=>(keyD p.1,p.2)
theorem Wt {K:PySem.W.Frag} {H:Hp}: ∀{more:List (Key×PyData)} {ws:List (Key×V)} {kds:List (PyData×PyData)},jj K H ws kds→Yr kds more→dF K H ws (more.map fun p=>(p.1,DV.d p.2))
 | [],_,_,.nil,_=> .nil
 | [],_,_,.cons _ _,e=>by cases e
 |(k,d)::more,_,_,.nil,e=>by cases e
 |(k,d)::more,_,_,.cons h t,e=>by
  have e:=List.cons.inj e
  have e1:=Prod.mk.inj e.1
  have ek:=XS e1.1
  have ed:=e1.2
  subst ek
  subst ed
  exact .cons ⟨rfl,h⟩ (Wt t e.2)
def YH (to te:TD):bK:=fun D sl M=>to sl M fun o M1=>match o with
 | .raw (.ref p)=>getD M1 p fun _=>te sl M1 fun x M2=>match x with
  | .d (.dict kds)=>getD M2 p fun kvs=> ∃more,Yr kds more∧kvs.length+more.length≤sizeLine∧D.nx sl (bD M2 p (.dk (qD kvs (more.map fun p=>(p.1,DV.d p.2)))))
  |_=>False
 |_=>False
theorem ahe {apos cpos:Pos} (ho:DE X o to) (he:DE X e te)
  (h: ∀{t1:TE} {t2:TA},PE X o t1→PA X [e] t2→PS X (.Expr (.Call (.Attribute o "update" apos) [e] [] cpos) pos) (tDrop (tBM X.K "dict" VF t1 t2)):=by
   intro t1 t2 q1 q2;exact ps_expr (pe_bm PySem.F.plainAttrs_dict PySem.F.slot_dict_update PySem.F.type_dict_update acO q1 q2)) (hs:starEach [e] X.env=(false,eval e X.env)::starEach [] X.env:=by rfl):
  DS X (.Expr (.Call (.Attribute o "update" apos) [e] [] cpos) pos) (YH to te):=
 PS.imp (h ho (pa_cons he pa_nil hs)) fun D σ H ⟨sl,M,E,hs,hm,ht,kn,kr,kb,kc⟩=>⟨sl,M,_,hs,hm,ht,fun o M1 h1 ov H1 l1 m1 r1=>by
  split at h1
  ·rename_i p
   obtain⟨ys,ey,h1⟩:=Bf h1
   have r1':ov= .ref p:=r1
   subst r1'
   obtain⟨ws,hw,rws⟩:=m1 p _ ey
   refine⟨.inr (.inr (.inl ⟨rfl,.inl ⟨ws,hw⟩⟩)),sl,M1,_,hs.sub l1,m1,h1,fun x M2 h2 xv H2 l2 m2 r2=> ?_⟩
   split at h2
   ·rename_i kds
    obtain⟨xs,ex,more,em,hz,h2⟩:=Bf h2
    obtain⟨vs,hv,rvs⟩:=m2 p _ ex
    have r2':RD X.K (hide H2 M2) xv (.dict kds):=r2
    cases r2' with
    |dct q1 q2=>
     rename_i b ws2
     have l:=l1.trans l2
     have hne:p≠b:=by
      rintro rfl
      have:=uf q1
      rw [ex]at this
      cases this
     have rk:=Wt q2 em
     have hl2:ws2.length=more.length:=by rw [dF.len rk,List.length_map]
     exact⟨p,b,vs,ws2,rfl,rfl,hne,hv,d8 _ _ _ _ q1,by rw [dF.len rvs,hl2];exact hz,kn _ _ h2 _ _ (l.trans (k_ ex)) (uw m2 ex ⟨_,upd_same,dF.merge rk rvs⟩) (hs.sub (l.trans (k_ ex)))⟩
   ·exact h2.elim
  ·exact h1.elim⟩
def X5 (trs:List (TD×TD)):TD:=fun sl M R=> ∀p,M p=none→Ij trs sl (bD M p (.dk [])) fun ps M2=>M2 p=some (.dk [])∧fK (BL ps) fun kvs=>kvs.length≤15∧R (.raw (.ref p)) (bD M2 p (.dk (qD [] kvs)))
theorem aes {keys:List (Option Expr)} {values:List Expr} {trs:List (TD×TD)} {pos:Pos} (h:PPs X pos keys values (trs.map fun t=>(iD X.K t.1,iD X.K t.2))) (hall:keys.all (·.isSome)=true:=by rfl) (hl:keys.length=values.length:=by rfl) (h0:keys≠ []:=by simp)
  (h15:keys.length≤15:=by decide):DE X (.Dict keys values pos) (X5 trs):=
 PE.imp (pe_disp h hall hl h0 h15) fun σ H Q ⟨sl,M,R,hs,hm,ht,k⟩=>fun p n=>by
  refine Kw trs (hs.sub (oF n)) (xH (mo:= .dk []) hm n ⟨[],upd_same,.nil⟩) (ht p (oN hm n)) fun ps M2 h2 vs H2 l2 m2 r2=> ?_
  obtain⟨ep,h2⟩:=h2
  obtain⟨kvs,ek,hl,h2⟩:=iK h2
  obtain⟨kws,e1,rk⟩:=JQ r2 ek
  obtain⟨av,ha,ra⟩:=m2 p _ ep
  cases ra
  have rm:cD X.K (upd H2 p (.dK (mergeK [] kws))) (bD M2 p (.dk (qD [] kvs))):=uw m2 ep ⟨_,upd_same,dF.merge rk .nil⟩
  refine⟨ha,kws,e1,by rw [dF.len rk];exact hl,?_⟩
  have l3:Le H2 M2 (upd H2 p (.dK (mergeK [] kws))) (bD M2 p (.dk (qD [] kvs))):=k_ ep
  exact k _ _ h2 _ _ ((oF n).trans (l2.trans l3)) rm rfl
def ad0 (x:DV) (M:Mem):Prop:= ∃p kvs,x= .raw (.ref p)∧M p=some (.dk kvs)
def aif (x y z:DV) (M:Mem) (R:KD):Prop:= ∃p kvs key,x= .raw (.ref p)∧M p=some (.dk kvs)∧keyV y=some key∧R ((je kvs key).getD z) M
def Jq (ta tb tc:TD):TD:=fun sl M R=>ta sl M fun x M1=>ad0 x M1∧tb sl M1 fun y M2=>tc sl M2 fun z M3=>aif x y z M3 R
theorem acC {n:Nat} {apos:Pos} (hr:Room n X.A) (ha:DE X a ta) (hb:DE X b tb) (hc:DE X c tc) (m:M2 X a "get" apos b c pos:=by exact⟨rfl,rfl,rfl,rfl⟩):DE X (.Call (.Attribute a "get" apos) [b,c] [] pos) (Jq ta tb tc):=
 PE.imp (pe_dget2 (by have:=hr.units;omega) ha hb hc m) fun σ H Q ⟨sl,M,R,hs,hm,ht,k⟩=>⟨sl,M,_,hs,hm,ht,fun x M1 h1 v H1 l1 m1 r1=>by
  obtain⟨⟨p,kvs,rfl,ep⟩,h1⟩:=h1
  have r1':v= .ref p:=r1
  subst r1'
  obtain⟨ws,hw,rws⟩:=m1 p _ ep
  refine⟨_,rfl,.inl ⟨_,.inl hw⟩,sl,M1,_,hs.sub l1,m1,h1,fun y M2 h2 u H2 l2 m2 r2=>⟨sl,M2,_,hs.sub (l1.trans l2),m2,h2,fun z M3 h3 w' H3 l3 m3 r3=> ?_⟩⟩
  obtain⟨q,aoA,key,e1,e2,e3,h3⟩:=h3
  cases e1
  obtain⟨ws3,hw3,aiC⟩:=m3 p _ e2
  have ey:=Ep (RV.sub l3 r2) e3
  have l:=(l1.trans l2).trans l3
  rcases dF.look key aiC with⟨v',x',f1,f2,f3⟩|⟨f1,f2⟩
  ·rw [f2]at h3
   exact⟨valV ws3 key,.inl ⟨_,key,.inl hw3,ey,rfl⟩,by rw [f1];exact k _ M3 h3 _ H3 l m3 f3⟩
  ·rw [f2]at h3
   exact⟨valV ws3 key,.inl ⟨_,key,.inl hw3,ey,rfl⟩,by rw [f1];exact k _ M3 h3 _ H3 l m3 r3⟩⟩
def jd:PyData→PyData→Mem→KD→Prop
 | .str x,.int n,M,R=>(0≤n∧n≤100000∧x.length≤100)∧R (.d (.str (Txt.mul x n))) M
 |_,_,_,_=>False
theorem ahI {x:Str} {n:Int} (h1:0≤n) (h2:n≤100000) (h3:x.length≤100):MulOk x n:=by
 refine⟨?_,fun _ _=> ?_,fun _ _=> ?_⟩
 ·rw [decide_eq_false (by omega),decide_eq_false (by omega)]
  rfl
 ·have:(x.length:Int)*n≤100*100000:=Int.mul_le_mul (by omega) h2 (by omega) (by decide)
  have h4:(100:Int)≤(2^63-1)/n:=(Int.le_ediv_iff_mul_le (by omega)).mpr (by omega)
  omega
 ·have:x.length*n.toNat≤100*100000:=Nat.mul_le_mul h3 (by omega)
  unfold Builtin.Str.tooLong
  rw [sizeLine_eq]
  exact decide_eq_false (by omega)
theorem kh:iW X (binaryOp .Mult) (g2 jd):=pH fun pins s σ H x y v u Q dx dy M R I rv ru hm rx ry hg k=>by
 cases rx with
 |str i=>
  cases ry with
  |int j=>
   obtain⟨⟨h1,h2,h4⟩,hg⟩:=hg
   obtain⟨t,rfl⟩:=rv
   obtain⟨t',rfl⟩:=ru
   exact SB.mul (ahI h1 h2 h4) fun t' tk=>⟨.str _,H,I.tok _,⟨_,rfl⟩,dJ k hm hg (.str _)⟩
  |_=>exact hg.elim
 |_=>exact hg.elim
theorem W9 {x:Str} {n:Nat} (h2:0<x.length):(Txt.mul x (n:Nat)).cps.toList=(List.replicate n x.cps.toList).flatten:=by
 rcases Nat.lt_or_ge 1 n with h|h
 ·exact ah_ h h2
 ·rcases Nat.lt_or_ge 0 n with h0|h0
  ·have e:n=1:=by omega
   subst e
   have:Txt.mul x ((1:Nat):Int)=x:=by
    unfold Txt.mul
    rw [if_neg (by omega),if_pos (by rfl)]
   rw [this]
   simp
  ·have e:n=0:=by omega
   subst e
   rfl
def Kf:GC
 | [.d (.str x)],M,R=>R (.d (.str x)) M
 |xs,M,R=>J8 xs M R
theorem adF:CallD X (.type "str") Kf:=by
 intro pins s σ H vs us Q I r hh
 obtain⟨xs,M,R,hm,rv,hg,k⟩:=hh
 by_cases e: ∃x,xs= [.d (.str x)]
 ·obtain⟨x,rfl⟩:=e
  have hg:R (.d (.str x)) M:=hg
  cases rv with
  |cons r1 r2=>
   cases r2
   cases (show RD X.K (hide H M) _ (.str x)from r1)
   exact SkE.call_str_str pins s σ H _ us Q I r ⟨x,rfl,dJ k hm hg (.str _)⟩
 ·have hg:J8 xs M R:=by
   unfold Kf at hg
   split at hg
   ·exact absurd ⟨_,rfl⟩ e
   ·exact hg
  exact ab2 pins s σ H vs us Q I r ⟨xs,M,R,hm,rv,hg,k⟩
end
end DL
namespace DL
open PySem PySem.Spec PyProof.Rows L2
section
variable {X:Cx}
variable {o e:Expr} {to te:TD} {pos:Pos}
def Xz:GC
 | [.d (.str x)],M,R=>x.cps.size≤sizeLine∧R (.d (.list (x.cps.toList.map fun c=> .str ⟨#[c]⟩))) M
 |_,_,_=>False
theorem WR {x:Str}: ∀(l:List Nat) (us:List Value),us.length=l.length→(∀(j:Nat) (c:Nat) (u:Value),l[j]? =some c→us[j]? =some u→ ∃t,u= .str ⟨#[c]⟩ t)→Vals (l.map fun c=>V.str ⟨#[c]⟩) us
 | [],[],_,_=> .nil
 | [],_::_,h,_=>by cases h
 |_::_,[],h,_=>by cases h
 |c::l,u::us,h,hu=>by
  obtain⟨t,rfl⟩:=hu 0 c u rfl rfl
  exact .cons ⟨t,rfl⟩ (WR (x:=x) l us (by simpa using h) fun j c' u' h1 h2=>hu (j+1) c' u' (by simpa using h1) (by simpa using h2))
theorem Y6 {K:PySem.W.Frag} {H:Hp}: ∀l:List Nat,cI K H (l.map fun c=>V.str ⟨#[c]⟩) (l.map fun c=>PyData.str ⟨#[c]⟩)
 | []=> .nil
 |c::l=> .cons (.str _) (Y6 l)
theorem ail (hc:X.calm=true):CallD X (.type "list") Xz:=by
 intro pins s σ H vs us Q I r hh
 obtain⟨xs,M,R,hm,rv,hg,k⟩:=hh
 match xs,hg with
 | [.d (.str x)],hg=>
  cases rv with
  |cons r1 r2=>
   cases r2
   cases r1
   obtain⟨u,rfl,ru⟩:=Vals.one r
   obtain⟨t,rfl⟩:=ru
   refine call_list_str (I.ok.hd hc) x t (fun h' tk acc' c' kp e hs=> ?_) hg.1
   have hsz:acc'.toList.length=x.cps.toList.length:=by rw [Array.length_toList,hs.1,Array.length_toList]
   have hv:Vals (x.cps.toList.map fun c=>V.str ⟨#[c]⟩) acc'.toList:=WR (x:=x) _ _ hsz fun j c u h1 h2=>by
    have h3:=hs.2 j u (by rw [←Array.getElem?_toList];exact h2)
    obtain⟨c1,u1,e1,rfl⟩:=h3
    rw [Array.getElem?_toList]at h1
    rw [h1]at e1
    cases e1
    exact⟨_,rfl⟩
   refine⟨.ref s.heap.objs.size,_,I.laid (t':=tk) kp (Nat.le_refl _) (show ObjOk X.prog X.w _ h' _ (.lst (x.cps.toList.map fun c=>V.str ⟨#[c]⟩))from⟨by rw [List.length_map,Array.length_toList];exact hg.1,acc'.toList,c',hv,e⟩),rfl,uU k hm (I.hok.fresh (Nat.le_refl _)) hg.2 (wU hm (I.hok.fresh (Nat.le_refl _)) (Y6 _))⟩
theorem wW.de0 {n:Str} {k:Nat} {sp:dM} {p:Pos} (D:wW X.prog X.w X.K X.mg X.base n k sp) (hgd:X.A.guards=some []) (hr:Room (k+1) X.A) (hg:Gl X n) (hdb:(n==("__debug__" :Str))=false:=by decide):DE X (.Call (.Name n p) [] [] pos) (wG n sp aH):=by
 obtain⟨C,g,fd,ps,hmC,hC,mk,F,hb⟩:=D.ex
 refine⟨fun pins s σ H Q I ⟨sl,M,R,rs,hm,hh,kk⟩=> ?_⟩
 refine wpAny_Call_Name_kw (ld_glob I hg hmC (PySem.W.callWith_K0 (first:= []) I.kIn mk.kp ?_) hdb)
 have nx:H (s.heap.objs.size+1)=none:=I.hok.fresh (Nat.le_succ _)
 have nd:H s.heap.objs.size=none:=I.hok.fresh (Nat.le_refl _)
 have ne:s.heap.objs.size≠s.heap.objs.size+1:=Nat.ne_of_lt (Nat.lt_succ_self _)
 have lm:=H_ (M:=M) (C:=C) (n:=n) nx nd ne
 have hsp:sp (.raw (.ref (s.heap.objs.size+1)):: []) (bD M (s.heap.objs.size+1) (.ins n [])) fun v M2=>v= .d .none∧R (.raw (.ref (s.heap.objs.size+1))) M2:=hh _ (oN hm nx)
 have I2:=Inv.made (C:=C) I
 have rr:Vals (V.ref (s.heap.objs.size+1):: []) (Value.ref (s.heap.objs.size+1):: []):= .cons rfl .nil
 have goal:dO X.K sp (V.ref (s.heap.objs.size+1):: []) (upd (upd H s.heap.objs.size (.own (s.heap.objs.size+1))) (s.heap.objs.size+1) (.ins C s.heap.objs.size [])) (fun v H2=>v= .non∧Q (.ref (s.heap.objs.size+1)) H2) E0:=by
  refine⟨.raw (.ref (s.heap.objs.size+1)):: [],_,_,.cons rfl .nil,Ls hm hC nx nd ne,hsp,?_⟩
  rintro d M3 ⟨rfl,hq⟩ v H3 l3 m3 r3
  cases r3
  exact⟨rfl,kk _ M3 hq _ _ (lm.trans l3) m3 rfl⟩
 have hlen:(Value.ref (s.heap.objs.size+1)::([]:List Value)).length=ps.length:=rr.length.symm.trans (F.len _ _ _ _ goal)
 have bd:=hb _ (Value.ref (s.heap.objs.size+1):: []) I2.kIn (by rw [List.append_nil];exact hlen)
 rw [List.append_nil]at bd
 refine wpAny_call (make_map (f:=g) I.kIn mk.makes mk.init (beq_iff_eq.mp mk.fn) (codeAny_mono (F.run _ X.stack _ _ _ _ _ _ _ hgd (hr.make C [] []) (I2.env0.make C [] []) bd rr goal) ?_))
 intro r s' hq
 match r,hq with
 | .error er,hq=>exact(pass0 (X:=X)) pins σ _ _ er s' I2 hq
 | .ok (.ret u),hq=>
  obtain⟨v,H',I3,rv',ev,q3⟩:=I2.after hq
  subst ev
  exact⟨rv',⟨V.ref (s.heap.objs.size+1),H',I3,rfl,q3⟩⟩
end
end DL
namespace DL
open PySem PySem.Spec PyProof.Rows L2
structure X_ (K:PySem.W.Frag) (w:World) (mg:Str→Option Value) (x:Str) (l:List (Str×Int)) (miss:List Str):Prop where
 ex: ∃(d:Addr) (es:Array DictEntry) (n:Nat),mg x=some (.ref d)∧KDict K w d es n∧(∀q∈l,∃t,PySem.W.nsIn K d q.1=some (some (.int q.2 t)))∧ ∀z∈miss,PySem.W.nsIn K d z=some none
def YD (l:List (Str×Int)) (miss:List Str) (y z:DV) (M:Mem) (R:KD):Prop:= ∃key,y= .d (.str key)∧((∃v,(key,v)∈l∧R (.d (.int v)) M)∨(key∈miss∧R z M))
def aeK (l:List (Str×Int)) (miss:List Str) (tb tc:TD):TD:=fun sl M R=>tb sl M fun y M2=>tc sl M2 fun z M3=>YD l miss y z M3 R
section
variable {X:Cx}
theorem X_.de {x:Str} {l:List (Str×Int)} {miss:List Str} {b c:Expr} {tb tc:TD} {npos apos pos:Pos} (D:X_ X.K X.w X.mg x l miss) (hg:Gl X x) (hb:DE X b tb) (hc:DE X c tc) (m:M2 X (.Name x npos) "get" apos b c pos:=by exact⟨rfl,rfl,rfl,rfl⟩) (hd:(x==("__debug__" :Str))=false:=by decide):
  DE X (.Call (.Attribute (.Name x npos) "get" apos) [b,c] [] pos) (aeK l miss tb tc):=by
 obtain⟨d,es,n,hm,KD,hl,hms⟩:=D.ex
 have ho:PE X (.Name x npos) (tC (.ref d)):=pe_glob hg hm rfl hd
 refine⟨fun pins s σ H Q I ⟨sl,M,R,hs,hmm,ht,k⟩=> ?_⟩
 refine wpAny_Call_method m.base m.few m.line PySem.F.plainAttrs_dict PySem.F.slot_dict_get PySem.F.type_dict_get (thn (ho.run pins s σ H (fun v H1=>v= .ref d∧H1=H) I ⟨rfl,rfl⟩) fun u s1 ⟨x1,H1,I1,rx,ex,eH⟩=> ?_)
 subst ex
 subst eH
 obtain rfl:u=Value.ref d:=rx
 refine⟨kd_type KD I1,fun b q=>(by cases q;exact⟨_,I1.kIn _ _ KD.at_,rfl⟩),?_⟩
 rw [m.trees]
 have hb1:=hb.run pins s1 σ H1 (fun y H2=> ∃y' M2,iD X.K tc σ H2 (fun z H3=> ∃z' M3,cD X.K H3 M3∧Le H1 M H3 M3∧RV X.K (hide H3 M3) y y'∧RV X.K (hide H3 M3) z z'∧YD l miss y' z' M3 R)∧RV X.K (hide H2 M2) y y') I1
  ⟨sl,M,_,hs,hmm,ht,fun y' M2 h2 y H2 l2 m2 r2=>⟨y',M2,⟨sl,M2,_,hs.sub l2,m2,h2,fun z' M3 h3 z H3 l3 m3 r3=>⟨z',M3,m3,l2.trans l3,r2.sub l3,r3,h3⟩⟩,r2⟩⟩
 refine Calls.callWith_builtin rfl (Calls.evalArgs_plain (Calls.spliced_cons (thn hb1 fun iv s2 ⟨y,H2,I2,ry,y',M2,q2,_⟩=>
  Calls.spliced_cons (thn (hc.run pins s2 σ H2 _ I2 q2) fun fv s3 ⟨z,H3,I3,rz,z',M3,m3,l3,r2,r3,g3⟩=>Calls.spliced_nil ?_))))
 obtain⟨key,rfl,g3⟩:=g3
 have r2':RD X.K (hide H3 M3) y (.str key):=r2
 cases r2'
 obtain⟨t,rfl⟩: ∃t,iv= .str key t:=ry
 have hmap:=PySem.W.mapOf_K (prog:=X.prog) (w:=X.w) I3.kIn KD.at_ KD.lit
 refine call_meetsIn PySem.F.slot_dict_get hmap.typeIs PySem.F.entry_dict_get (PySem.F.args_dict_get_3 _ _ _) (meets_dict_get_default (strKind X.prog X.w) d (PySem.strKind_is X.prog X.w key t) KD.low fv) ⟨_,hmap,?_⟩
 rcases g3 with⟨v,hv,hR⟩|⟨hv,hR⟩
 ·obtain⟨t',e⟩:=hl _ hv
  rw [PySem.W.find_K KD.at_ e]
  exact⟨.int v,H3,I3.tok _,⟨_,rfl⟩,k _ M3 hR _ H3 l3 m3 (.int v)⟩
 ·rw [PySem.W.find_K KD.at_ (hms _ hv)]
  exact⟨z,H3,I3.tok _,rz,k _ M3 hR _ H3 l3 m3 r3⟩
end
end DL
namespace DL
open PySem PySem.Spec PyProof.Rows L2
end DL
namespace DL
open PySem PySem.Spec PyProof.Rows L2
end DL
namespace DL
open PySem PySem.Spec PyProof.Rows L2 HT
end DL
namespace DL
open PySem PySem.Spec PyProof.Rows L2
variable {X:Cx}
theorem bY.drop {K:PySem.W.Frag} {H:Hp}: ∀{vs:List V} {xs:List DV},bY K H vs xs→ ∀n,bY K H (vs.drop n) (xs.drop n)
 |_,_,.nil,_=>by rw [List.drop_nil,List.drop_nil];exact .nil
 |_,_,.cons h t,0=> .cons h t
 |_,_,.cons h t,n+1=>bY.drop t n
theorem bY.take {K:PySem.W.Frag} {H:Hp}: ∀{vs:List V} {xs:List DV},bY K H vs xs→ ∀n,bY K H (vs.take n) (xs.take n)
 |_,_,.nil,_=>by rw [List.take_nil,List.take_nil];exact .nil
 |_,_,.cons _ _,0=> .nil
 |_,_,.cons h t,n+1=> .cons h (bY.take t n)
end DL
namespace DL
open PySem PySem.Spec PyProof.Rows L2
section
variable {X:Cx} {e o tg:Expr} {te to:TD} {pos apos cpos:Pos}
theorem dF.drop {K:PySem.W.Frag} {H:Hp} (k:Key): ∀{vs:List (Key×V)} {xs:List (Key×DV)},dF K H vs xs→dF K H (dropK vs k) (xs.filter fun q=> !decide (q.1=k))
 |_,_,.nil=> .nil
 |p::vs,q::xs,.cons h t=>by
  have ih:=dF.drop k t
  unfold dropK at ih ⊢
  by_cases z:q.1=k
  ·rw [List.filter_cons_of_neg (by rw [h.1,z];simp),List.filter_cons_of_neg (by rw [z];simp)]
   exact ih
  ·rw [List.filter_cons_of_pos (by rw [h.1];simpa using z),List.filter_cons_of_pos (by simpa using z)]
   exact .cons h ih
variable {sts:List Stmt} {t:bK}
end
end DL
namespace DL
open PySem PySem.Spec PyProof.Rows L2
section
variable {P:Program} {w:World} {A:Around} {E:Value→Shared→Prop} {s:Shared} {a:Addr} {L:List (Addr×List Int)} {es:Array (Int×Value)} {ep:Nat} {t:SetTable}
theorem yd.type (R:yd P w s.heap a L es ep t):s.TypeIs (.ref a) "set" :=by
 obtain⟨o,ho,hex,_⟩:=R.ob
 exact⟨o,ho,hex.1⟩
end
end DL
namespace DL
open PySem PySem.Spec PyProof.Rows L2 LamX
end DL
namespace DL
open PySem PySem.Spec PyProof.Rows L2 LamX
end DL
namespace Law
open PySem PySem.Spec PyProof.Rows L2 DL
def topS (i:Nat):Stmt:=PySem.Challenge.pw_limitrun_k11_expressions_refused.main.body.getD i (.Pass ⟨0,0,0,0⟩)
def j_ (i j:Nat):Stmt:=match topS i with| .ClassDef _ _ _ body ..=>body.getD j (.Pass ⟨0,0,0,0⟩)|_=> .Pass ⟨0,0,0,0⟩
def GD:DV:= .d (.str "abcdefghijklmnopqrstuvwxyz")
def CT:DV:= .d (.str "0123456789")
def Hl:DV:= .d (.tuple [.str "var",.str "limit",.str "low",.str "high",.str "keep",.str "set",.str "halt",.str "not",.str "and",.str "or",.str "mod",.str "if",.str "then",.str "else",.str "min",.str "max"])
def Jt:DV:= .d (.int 8)
def K9:DV:= .d (.int 6)
def Ln:DV:= .d (.tuple [.str "..",.str ":=",.str "!=",.str "<=",.str ">=",.str "+",.str "-",.str "*",.str "=",.str "<",.str ">",.str "(",.str ")",.str ","])
def Ks:DV:= .d (.int 120)
def Ca:DV:= .d (.str "end")
def Lp:DV:= .d (.int 30)
def Ji:DV:= .d (.tuple [.str "=",.str "!=",.str "<",.str "<=",.str ">",.str ">="])
def MK (S:List Addr) (M M':Mem):Prop:= ∀b o,M b=some o→b∉S→M' b=some o
theorem MK.refl (S:List Addr) (M:Mem):MK S M M:=fun _ _ h _=>h
theorem MK.trans {S:List Addr} {A B C:Mem} (h:MK S A B) (k:MK S B C):MK S A C:=fun b o e n=>k b o (h b o e n) n
theorem MK.mono {S T:List Addr} {A B:Mem} (h:MK S A B) (st: ∀x∈S,x∈T):MK T A B:=fun b o e n=>h b o e fun z=>n (st b z)
theorem MK.new {S:List Addr} {M:Mem} {p:Addr} {o:MO} (n:M p=none):MK S M (bD M p o):=fun b u e _=>by
 rw [fO (fun z=>by rw [z,n]at e;cases e)]
 exact e
theorem MK.upd {S:List Addr} {A B:Mem} {p:Addr} {o:MO} (h:MK S A B) (hp:p∈S∨A p=none):MK S A (bD B p o):=fun b u e n=>by
 rw [fO]
 ·exact h b u e n
 ·rintro rfl
  rcases hp with hp|hp
  ·exact n hp
  ·rw [hp]at e;cases e
theorem U8 {i:Int} (h0:0≤i) (h:i<10^20):(toString i:Str).length≤20:=by
 obtain⟨n,rfl⟩: ∃n:Nat,i=(n:Nat):=⟨i.toNat,by omega⟩
 rw [TL.len_tl,TL.tl_num]
 exact TL.numL_len (by decide) (by omega)
theorem xT (x y:Str):(x++y).length=x.length+y.length:=by
 rw [TL.len_tl,TL.tl_append,List.length_append,←TL.len_tl,←TL.len_tl]
theorem Fo (x:Str):Str.empty++x=x:=TL.ext_tl (by rw [TL.tl_append];rfl)
abbrev sg (x:Str):List Nat:=x.cps.toList
abbrev tx (l:List Nat):Str:=⟨l.toArray⟩
def cO (c:Nat):Bool:=decide (48≤c) && decide (c≤57)
theorem ahk {l:List Nat} (h:l.all cO=true):NumText.AllDigits l:=fun c hc=>by
 have:=List.all_eq_true.mp h c hc
 unfold cO at this
 simp only [Bool.and_eq_true,decide_eq_true_eq]at this
 exact this
theorem Cq (z:Str) (lo hi:Option Int):sg (cutS z lo hi)=iH (sg z) lo hi:=by
 have e:z.length=(sg z).length:=by simp [Str.length]
 unfold cutS iH
 rw [←e]
theorem uW {x y:Str} (h:sg x=sg y):x=y:=TL.ext_tl h
theorem uK (x y:Str):sg (x++y)=sg x++sg y:=TL.tl_append x y
inductive Op where
 |eq|ne|lt|le|gt|ge|add|sub|mul|mod|and|or|min|max
def Op.s:Op→Str
 | .eq=> "=" | .ne=> "!=" | .lt=> "<" | .le=> "<=" | .gt=> ">" | .ge=> ">=" | .add=> "+" | .sub=> "-" | .mul=> "*" | .mod=> "mod" | .and=> "and" | .or=> "or" | .min=> "min" | .max=> "max"
inductive Un where
 |neg|not
def Un.s:Un→Str
 | .neg=> "neg" | .not=> "not"
inductive Ex where
 |int (i:Int)|name (x:Str)|ite (a b c:Ex)|un (o:Un) (a:Ex)|bin (o:Op) (a b:Ex)
def Ex.d:Ex→PyData
 | .int i=> .tuple [.str "int",.int i]
 | .name x=> .tuple [.str "name",.str x]
 | .ite a b c=> .tuple [.str "if",a.d,b.d,c.d]
 | .un o a=> .tuple [.str o.s,a.d]
 | .bin o a b=> .tuple [.str o.s,a.d,b.d]
def Ex.dep:Ex→Nat
 | .int _=>0
 | .name _=>0
 | .ite a b c=>max a.dep (max b.dep c.dep)+1
 | .un _ a=>a.dep+1
 | .bin _ a b=>max a.dep b.dep+1
def Ex.ok (names:List Str):Ex→Prop
 | .int i=>0≤i∧i<2^20
 | .name x=>x∈names
 | .ite a b c=>a.ok names∧b.ok names∧c.ok names
 | .un _ a=>a.ok names
 | .bin _ a b=>a.ok names∧b.ok names
def b2 (b:Bool):Int:=if b then 1 else 0
def aio:Op→Int→Int→Bool
 | .eq,i,j=>decide (i=j)
 | .ne,i,j=> !decide (i=j)
 | .lt,i,j=>decide (i<j)
 | .le,i,j=>decide (i≤j)
 | .gt,i,j=>decide (j<i)
 | .ge,i,j=>decide (j≤i)
 |_,_,_=>false
def opV:Op→Int→Int→Int
 | .add,i,j=>i+j
 | .sub,i,j=>i-j
 | .mul,i,j=>i*j
 | .mod,i,j=>if j=0 then 0 else i.fmod j
 | .and,i,j=>b2 (!decide (i=0) && !decide (j=0))
 | .or,i,j=>b2 (!decide (i=0)|| !decide (j=0))
 | .min,i,j=>if j<i then j else i
 | .max,i,j=>if j>i then j else i
 |o,i,j=>b2 (aio o i j)
def unV:Un→Int→Int
 | .neg,i=> -i
 | .not,i=>b2 (decide (i=0))
abbrev Env:=List (Str×Int)
def Ex.val (env:Env):Ex→Int
 | .int i=>i
 | .name x=>(env.lookup x).getD 0
 | .ite a b c=>if a.val env=0 then c.val env else b.val env
 | .un o a=>unV o (a.val env)
 | .bin o a b=>opV o (a.val env) (b.val env)
def bd:Nat→Nat
 |0=>20
 |n+1=>2*bd n+1
def vX (k:Nat) (i:Int):Prop:=i.natAbs<2^k
theorem vX.mono {k m:Nat} {i:Int} (h:vX k i) (hk:k≤m):vX m i:=Nat.lt_of_lt_of_le h (Nat.pow_le_pow_right (by decide) hk)
theorem ahP {k:Nat} {i:Int} (hk:0<k) (h:vX k i):i.natAbs.log2<k:=PySem.Flt.log2_lt_of hk h
inductive Ru where
 |low|high|keep (v:Int)|set (v:Int)
def Ru.d:Ru→PyData
 | .low=> .tuple [.str "low"]
 | .high=> .tuple [.str "high"]
 | .keep v=> .tuple [.str "keep",.int v]
 | .set v=> .tuple [.str "set",.int v]
def Ru.ok (lo hi:Int):Ru→Prop
 | .keep v=>lo≤v∧v≤hi
 | .set v=>lo≤v∧v≤hi
 |_=>True
structure Vr where
 nm:Str
 lo:Int
 hi:Int
 st:Int
 ru:Ru
def Vr.d (v:Vr):PyData:= .tuple [.str v.nm,.int v.lo,.int v.hi,.int v.st,v.ru.d]
structure Vr.Ok (v:Vr):Prop where
 l0: -1000≤v.lo
 h1:v.hi≤1000
 s0:v.lo≤v.st
 s1:v.st≤v.hi
 ru:v.ru.ok v.lo v.hi
structure Pg where
 vars:List Vr
 halt:Option Ex
 asg:List (Str×Ex)
def Pg.names (p:Pg):List Str:=p.vars.map (·.nm)
def ahr:Option Ex→PyData
 |none=> .none
 |some e=>e.d
def abX (a:Str×Ex):PyData:= .tuple [.str a.1,a.2.d]
def Pg.d (p:Pg):PyData:= .tuple [.tuple (p.vars.map Vr.d),ahr p.halt,.tuple (p.asg.map abX)]
def Vr.sz (v:Vr):Nat:=(v.hi+1-v.lo).toNat
def adh (vs:List Vr):Nat:=(vs.map Vr.sz).foldl (· * ·) 1
structure Pg.Ok (p:Pg) (most:Nat):Prop where
 nd:p.names.Nodup
 few:p.vars.length≤8
 len: ∀x∈p.names,x.length≤8∧(x.cps.toList.all fun c=>decide (c<16^8))=true
 vr: ∀v∈p.vars,v.Ok
 ht: ∀e,p.halt=some e→e.ok p.names∧e.dep≤4
 as: ∀a∈p.asg,a.2.ok p.names∧a.2.dep≤4
 an:(p.asg.map (·.1)).Nodup
 ak: ∀a∈p.asg,a.1∈p.names
 sz:adh p.vars≤most
structure Pg.St (p:Pg) (s:List Int):Prop where
 len:s.length=p.vars.length
 sm: ∀x∈s,vX 20 x
def Pg.env (p:Pg) (s:List Int):Env:=p.names.zip s
def Pg.stopped (p:Pg) (s:List Int):Bool:=match p.halt with
 |none=>false
 |some e=> !decide (e.val (p.env s)=0)
def In (s:List Int) (vs:List Vr):Prop:=s.length=vs.length∧ ∀(i:Nat) (x:Int) (v:Vr),s[i]? =some x→vs[i]? =some v→v.lo≤x∧x≤v.hi
theorem In.snoc {s:List Int} {vs:List Vr} {x:Int} {v:Vr} (h:In s vs) (h0:v.lo≤x) (h1:x≤v.hi):In (s++ [x]) (vs++ [v]):=by
 refine⟨by simp [h.1],fun i y w e1 e2=> ?_⟩
 by_cases hi:i<s.length
 ·rw [List.getElem?_append_left hi]at e1
  rw [List.getElem?_append_left (by rw [←h.1];exact hi)]at e2
  exact h.2 i y w e1 e2
 ·rw [List.getElem?_append_right (by omega)]at e1
  rw [List.getElem?_append_right (by rw [←h.1];omega)]at e2
  have hz:i-s.length=0:=by
   have:=(List.getElem?_eq_some_iff.mp e1).1
   simp at this
   omega
  rw [hz]at e1
  rw [←h.1,hz]at e2
  cases e1
  cases e2
  exact⟨h0,h1⟩
theorem aeL {x:Int} (h0: -1000≤x) (h1:x≤1000):vX 20 x:=by
 show x.natAbs<2^20
 omega
theorem In.st {p:Pg} {most:Nat} (ok:p.Ok most) {s:List Int} (h:In s p.vars):p.St s:=by
 refine⟨h.1,fun x hx=> ?_⟩
 obtain⟨i,hi⟩:=List.getElem?_of_mem hx
 have hl:=(List.getElem?_eq_some_iff.mp hi).1
 have hl':i<p.vars.length:=by rw [←h.1];exact hl
 have hv:p.vars[i]? =some p.vars[i]:=List.getElem?_eq_getElem hl'
 have:=h.2 i x _ hi hv
 have o:=ok.vr p.vars[i] (List.getElem_mem _)
 exact aeL (by have:=o.l0;omega) (by have:=o.h1;omega)
def col (ss:List (List Int)) (i:Nat):List Int:=ss.map fun s=>s.getD i 0
def clip (v:Vr) (x:Int):Int:=if x<v.lo then v.lo else if v.hi<x then v.hi else x
def Pg.nv (g:Pg) (s:List Int) (v:Vr):Int:=match g.asg.lookup v.nm with
 |some e=>e.val (g.env s)
 |none=>((g.env s).lookup v.nm).getD 0
def Pg.next (g:Pg) (s:List Int):List Int:=if g.stopped s=true then s else g.vars.map fun v=>clip v (g.nv s v)
theorem zY {B:Nat} {x:Str} (h:(x.cps.toList.all fun c=>decide (c<16^8))=true) (hl:x.length≤8):dW B 0 8 (.str x):=dW.str h hl
theorem adT (o:Op):dW 21 0 8 (.str o.s):=by cases o<;>exact zY (by decide+kernel) (by decide+kernel)
theorem aeE (o:Un):dW 21 0 8 (.str o.s):=by cases o<;>exact zY (by decide+kernel) (by decide+kernel)
structure Tk where
 kind:Str
 text:Str
 col:Int
def tk (ts:List Tk) (i:Nat):Tk:=ts.getD i ⟨"end","",0⟩
theorem adz {ts:List Tk} {i:Nat} {t:Tk} (h:ts[i]? =some t):tk ts i=t:=by
 unfold tk
 rw [List.getD_eq_getElem?_getD,h]
 rfl
theorem nO {ts:List Tk} {i:Nat} (h:i<ts.length):ts[i]? =some (tk ts i):=by
 rw [adz (List.getElem?_eq_getElem h),List.getElem?_eq_getElem h]
abbrev PRs:=Option (Except Int (Ex×Nat))
def PRs.then (r:PRs) (f:Ex→Nat→PRs):PRs:=match r with
 |none=>none
 |some (.error c)=>some (.error c)
 |some (.ok (e,j))=>f e j
abbrev dh (e:Ex) (i:Nat):PRs:=some (.ok (e,i))
def cQ (ts:List Tk) (kind:Str) (l:List Op) (i:Nat):Option Op:=if (tk ts i).kind=kind then l.find? fun o=>decide (o.s=(tk ts i).text)else none
def dU (ts:List Tk) (kind x:Str) (i:Nat):Prop:=(tk ts i).kind=kind∧(tk ts i).text=x
instance (ts:List Tk) (kind x:Str) (i:Nat):Decidable (dU ts kind x i):=by unfold dU;infer_instance
def cX (ts:List Tk) (kind x:Str) (i:Nat) (f:Nat→PRs):PRs:=if dU ts kind x i then f (i+1)else some (.error (tk ts i).col)
def jc (ts:List Tk) (d:Int) (i:Nat) (r:PRs):PRs:=if 30<d+1 then some (.error (tk ts i).col)else r
def fG (op:Nat→Option Op) (sub:Nat→PRs):Nat→Ex→Nat→PRs
 |0,_,_=>none
 |k+1,a,i=>match op i with
  |none=>dh a i
  |some o=>(sub (i+1)).then fun b j=>fG op sub k (.bin o a b) j
def jD (ts:List Tk) (i:Nat):Option Op:=match cQ ts "symbol" [.mul] i with
 |some o=>some o
 |none=>cQ ts "word" [.mod] i
abbrev nY:List Op:= [.eq,.ne,.lt,.le,.gt,.ge]
inductive PK where
 |expr|disj|conj|neg|cmp|add|prod|fac
def pP (nm:List Str) (ts:List Tk):Nat→PK→Int→Nat→PRs
 |0,_,_,_=>none
 |n+1,.expr,d,i=>jc ts d i (if dU ts "word" "if" i then
   (pP nm ts n .expr (d+1) (i+1)).then fun c i=>cX ts "word" "then" i fun i=>(pP nm ts n .expr (d+1) i).then fun a i=>cX ts "word" "else" i fun i=>(pP nm ts n .expr (d+1) i).then fun b i=>dh (.ite c a b) i
  else pP nm ts n .disj (d+1) i)
 |n+1,.disj,d,i=>(pP nm ts n .conj d i).then fun a i=>fG (cQ ts "word" [.or]) (pP nm ts n .conj d) ts.length a i
 |n+1,.conj,d,i=>(pP nm ts n .neg d i).then fun a i=>fG (cQ ts "word" [.and]) (pP nm ts n .neg d) ts.length a i
 |n+1,.neg,d,i=>if dU ts "word" "not" i then jc ts d (i+1) ((pP nm ts n .neg (d+1) (i+1)).then fun a i=>dh (.un .not a) i)else pP nm ts n .cmp d i
 |n+1,.cmp,d,i=>(pP nm ts n .add d i).then fun a i=>match cQ ts "symbol" nY i with
  |none=>dh a i
  |some o=>(pP nm ts n .add d (i+1)).then fun b i=>dh (.bin o a b) i
 |n+1,.add,d,i=>(pP nm ts n .prod d i).then fun a i=>fG (cQ ts "symbol" [.add,.sub]) (pP nm ts n .prod d) ts.length a i
 |n+1,.prod,d,i=>(pP nm ts n .fac d i).then fun a i=>fG (jD ts) (pP nm ts n .fac d) ts.length a i
 |n+1,.fac,d,i=>if (tk ts i).kind= "number" then dh (.int (NumText.digitsVal (sg (tk ts i).text):Nat)) (i+1)
  else if (tk ts i).kind= "name" then(if (tk ts i).text∈nm then dh (.name (tk ts i).text) (i+1)else some (.error (tk ts i).col))
  else if dU ts "symbol" "-" i then jc ts d (i+1) ((pP nm ts n .fac (d+1) (i+1)).then fun a i=>dh (.un .neg a) i)
  else match cQ ts "word" [.min,.max] i with
   |none=>cX ts "symbol" "(" i fun i=>(pP nm ts n .expr d i).then fun a i=>cX ts "symbol" ")" i fun i=>dh a i
   |some o=>cX ts "symbol" "(" (i+1) fun i=>(pP nm ts n .expr d i).then fun a i=>cX ts "symbol" "," i fun i=>(pP nm ts n .expr d i).then fun b i=>cX ts "symbol" ")" i fun i=>dh (.bin o a b) i
def iQ (M:Mem) (b:Addr) (t:Tk):Prop:=M b=some (.ins "Token" [("kind",.d (.str t.kind)),("text",.d (.str t.text)),("column",.d (.int t.col))])
def Xn (M:Mem) (v:DV) (nm:List Str):Prop:=(∃kds,v= .d (.dict kds)∧ ∀x:Str,(qL kds (.inr x)).isSome=decide (x∈nm))∨ ∃p kvs,v= .raw (.ref p)∧M p=some (.dk kvs)∧ ∀x:Str,(je kvs (.inr x)).isSome=decide (x∈nm)
structure LP where
 number:Int
 v:DV
 nm:List Str
 pt:Addr
 toks:List Tk
 at_:List Addr
structure nU (ts:List Tk):Prop where
 col: ∀t∈ts,0≤t.col∧t.col<10^20
 num: ∀t∈ts,t.kind= "number" →PySem.intText? t.text=some ((NumText.digitsVal (sg t.text):Nat):Int)∧t.text.length≤640
 fin: ∀(j:Nat) (t:Tk),ts[j]? =some t→t.kind≠ "end" →j+1<ts.length
 size:ts.length≤1000
def pJ (L:LP) (i:Nat) (d:Int):List (Str×DV):= [("number",.d (.int L.number)),("names",L.v),("tokens",.raw (.ref L.pt)),("index",.d (.int (i:Nat))),("depth",.d (.int d))]
theorem ahp (L:LP) (i:Nat) (d:Int):(pJ L i d).lookup ("number" :Str)=some (.d (.int L.number)):=rfl
theorem aeY (L:LP) (i:Nat) (d:Int):(pJ L i d).lookup ("names" :Str)=some L.v:=rfl
theorem ahR (L:LP) (i:Nat) (d:Int):(pJ L i d).lookup ("tokens" :Str)=some (.raw (.ref L.pt)):=rfl
theorem LQ (L:LP) (i:Nat) (d:Int):(pJ L i d).lookup ("index" :Str)=some (.d (.int (i:Nat))):=rfl
theorem VD (L:LP) (i:Nat) (d:Int):(pJ L i d).lookup ("depth" :Str)=some (.d (.int d)):=rfl
structure cA (M:Mem) (a:Addr) (L:LP) (i:Nat) (d:Int):Prop where
 obj:M a=some (.ins "LineParser" (pJ L i d))
 lst:M L.pt=some (.lst (L.at_.map fun b=>DV.raw (.ref b)))
 len:L.at_.length=L.toks.length
 tks: ∀(j:Nat) (b:Addr) (t:Tk),L.at_[j]? =some b→L.toks[j]? =some t→iQ M b t
 nms:Xn M L.v L.nm
 ok:nU L.toks
 n0:0≤L.number
 n1:L.number<10^20
theorem cA.token {M:Mem} {a:Addr} {L:LP} {i:Nat} {d:Int} (h:cA M a L i d) (hi:i<L.toks.length): ∃b,L.at_[i]? =some b∧iQ M b (tk L.toks i):=by
 have hb:i<L.at_.length:=by rw [h.len];exact hi
 exact⟨L.at_[i],List.getElem?_eq_getElem hb,h.tks i _ _ (List.getElem?_eq_getElem hb) (nO hi)⟩
theorem cA.move {M M':Mem} {a:Addr} {L:LP} {i i':Nat} {d d':Int} (h:cA M a L i d) (k:MK [a] M M') (e:M' a=some (.ins "LineParser" (pJ L i' d'))):cA M' a L i' d' where
 obj:=e
 lst:=k _ _ h.lst (by
  intro z
  have e2:=h.lst
  rw [List.mem_singleton.mp z,h.obj]at e2
  cases e2)
 len:=h.len
 tks:=fun j b t hb ht=>by
  have e1:=h.tks j b t hb ht
  refine k _ _ e1 fun z=> ?_
  unfold iQ at e1
  rw [List.mem_singleton.mp z,h.obj]at e1
  have h2:=(MO.ins.inj (Option.some.inj e1)).1
  exact absurd h2 (by decide+kernel)
 nms:=by
  rcases h.nms with h1|⟨p,kvs,e1,e2,h1⟩
  ·exact .inl h1
  ·refine .inr ⟨p,kvs,e1,k _ _ e2 fun z=> ?_,h1⟩
   rw [List.mem_singleton.mp z,h.obj]at e2
   cases e2
 ok:=h.ok
 n0:=h.n0
 n1:=h.n1
theorem cA.keep {M M':Mem} {a:Addr} {L:LP} {i:Nat} {d:Int} (h:cA M a L i d) (k:MK [] M M'):cA M' a L i d:=
 h.move (k.mono fun x hx=>by cases hx) (k _ _ h.obj (by simp))
theorem cA.set {M:Mem} {a:Addr} {L:LP} {i i':Nat} {d d':Int} (h:cA M a L i d):cA (bD M a (.ins "LineParser" (pJ L i' d'))) a L i' d':=
 h.move (fun b o e hb=>by rw [fO (fun z=>hb (by rw [z];simp))];exact e) cY
theorem cA.next {M:Mem} {a:Addr} {L:LP} {i:Nat} {d:Int} (h:cA M a L i d) (hi:i<L.toks.length) (hk:(tk L.toks i).kind≠ "end"):i+1<L.toks.length:=h.ok.fin i _ (nO hi) hk
theorem lO {M:Mem} {a:Addr} {o:MO}:MK [a] M (bD M a o):=fun b u e hb=>by rw [fO (fun z=>hb (by rw [z];simp))];exact e
abbrev qR (L:LP) (c:Int):List (Str×PyData):= [("column",.int c),("line",.int L.number)]
theorem Lw {ts:List Tk} {kind:Str} {l:List Op} {i:Nat}:cQ ts kind l i=none↔ ¬((tk ts i).kind=kind∧(tk ts i).text∈l.map Op.s):=by
 unfold cQ
 by_cases h:(tk ts i).kind=kind
 ·rw [if_pos h,List.find?_eq_none]
  constructor
  ·rintro h1 ⟨_,h2⟩
   obtain⟨o,ho,e⟩:=List.mem_map.mp h2
   exact h1 o ho (decide_eq_true e)
  ·intro h1 o ho e
   exact h1 ⟨h,List.mem_map.mpr ⟨o,ho,of_decide_eq_true e⟩⟩
 ·rw [if_neg h]
  exact⟨fun _ z=>h z.1,fun _=>rfl⟩
theorem Zx {ts:List Tk} {kind:Str} {l:List Op} {i:Nat} {o:Op} (h:cQ ts kind l i=some o):(tk ts i).kind=kind∧(tk ts i).text=o.s∧o∈l:=by
 unfold cQ at h
 by_cases hk:(tk ts i).kind=kind
 ·rw [if_pos hk]at h
  have h1:=List.find?_some h
  exact⟨hk,(of_decide_eq_true h1).symm,List.mem_of_find?_eq_some h⟩
 ·rw [if_neg hk]at h
  cases h
theorem Jv {n f:Str} {i:Nat} {sl:Slots} {M:Mem} {R:KD} {a:Addr} {fs:List (Str×DV)} {v:DV} {B:Hp} (e:sl[i]? =some (some (.wb (.raw (.ref a)) B))) (ho:M a=some (.ins n fs)) (hl:fs.lookup f=some v) (h:R v M):jK n f (bV i) sl M R:=
 fL e (gH ho (bB hl h))
theorem mH {n f:Str} {i:Nat} {sl:Slots} {M:Mem} {R:KD} {a:Addr} {fs:List (Str×DV)} {v:DV} (e:sl[i]? =some (some (.raw (.ref a)))) (ho:M a=some (.ins n fs)) (hl:fs.lookup f=some v) (h:R v M):jK n f (ao i) sl M R:=
 aG e (gH ho (bB hl h))
theorem Mg {i:Nat} {sl:Slots} {M:Mem} {D:fD} {a:Addr} {L:LP} {j:Nat} {d:Int} {B:Hp} (e:sl[i]? =some (some (.wb (.raw (.ref a)) B))) (h:cA M a L j d) (k: ∀M',cA M' a L (j+1) d→MK [a] M M'→D.nx sl M'):pF "LineParser" "index" (fun i j=>i+j) (bV i) (dC (.d (.int 1))) D sl M:=by
 refine fL e (gH h.obj (bB (LQ L j d) (aN (gH h.obj ⟨Nat.le_of_ble_eq_true rfl,?_⟩))))
 exact k (bD M a (.ins "LineParser" (pJ L (j+1) d))) h.set lO
theorem ah4 {i:Nat} {sl:Slots} {M:Mem} {D:fD} {a:Addr} {L:LP} {j:Nat} {d:Int} (e:sl[i]? =some (some (.raw (.ref a)))) (h:cA M a L j d) (k: ∀M',cA M' a L (j+1) d→MK [a] M M'→D.nx sl M'):pF "LineParser" "index" (fun i j=>i+j) (ao i) (dC (.d (.int 1))) D sl M:=by
 refine aG e (gH h.obj (bB (LQ L j d) (aN (gH h.obj ⟨Nat.le_of_ble_eq_true rfl,?_⟩))))
 exact k (bD M a (.ins "LineParser" (pJ L (j+1) d))) h.set lO
theorem Gv {i:Nat} {g:Int→Int→Int} {sl:Slots} {M:Mem} {D:fD} {a:Addr} {L:LP} {j:Nat} {d:Int} {B:Hp} (e:sl[i]? =some (some (.wb (.raw (.ref a)) B))) (h:cA M a L j d) (k: ∀M',cA M' a L j (g d 1)→MK [a] M M'→D.nx sl M'):pF "LineParser" "depth" g (bV i) (dC (.d (.int 1))) D sl M:=by
 refine fL e (gH h.obj (bB (VD L j d) (aN (gH h.obj ⟨Nat.le_of_ble_eq_true rfl,?_⟩))))
 exact k (bD M a (.ins "LineParser" (pJ L j (g d 1)))) h.set lO
theorem ne_str {x y:Str} {M:Mem} {R:KD} (k:R (.d (.bool (!decide (x=y)))) M):g2 jC (.d (.str x)) (.d (.str y)) M R:=k
theorem eq_str {x y:Str} {M:Mem} {R:KD} (k:R (.d (.bool (decide (x=y)))) M):g2 eU (.d (.str x)) (.d (.str y)) M R:=k
theorem Fe (l:List Str) (x:Str):vW (l.map PyData.str) (.str x):=by
 refine⟨?_,rfl,Nat.le_trans (Nat.min_le_right _ _) (Nat.zero_le _)⟩
 induction l with
 |nil=>rfl
 |cons a l ih=>show(true && PyData.plainAll (l.map PyData.str))=true;rw [ih];rfl
theorem Gk (l:List Str) (x:Str):((l.map PyData.str).any fun y=>PyData.eqv y (.str x))=decide (x∈l):=by
 induction l with
 |nil=>rfl
 |cons a l ih=>
  show(PyData.eqv (.str a) (.str x)||(l.map PyData.str).any fun y=>PyData.eqv y (.str x))=_
  rw [ih]
  have e:PyData.eqv (.str a) (.str x)=decide (a=x):=rfl
  rw [e]
  by_cases h:a=x
  ·subst h
   simp
  ·have h2: ¬x=a:=fun z=>h z.symm
   simp [h,h2]
theorem HJ {x:Str} {l:List Str} {M:Mem} {R:KD} (k:R (.d (.bool (decide (x∈l)))) M):g2 (inD false) (.d (.str x)) (.d (.tuple (l.map PyData.str))) M R:=⟨Fe _ _,by
 show R (.d (.bool ((l.map PyData.str).any fun y=>PyData.eqv y (.str x)))) M
 rw [Gk]
 exact k⟩
theorem Lj {x:Str} {l:List Str} {M:Mem} {R:KD} (k:R (.d (.bool (!decide (x∈l)))) M):g2 (inD true) (.d (.str x)) (.d (.tuple (l.map PyData.str))) M R:=⟨Fe _ _,by
 show R (.d (.bool (!((l.map PyData.str).any fun y=>PyData.eqv y (.str x))))) M
 rw [Gk]
 exact k⟩
theorem tV {A B:fZ} {sl:Slots} {M:Mem} {RB:KB} (h:A sl M fun k M1=>if k=true then RB true M1 else B sl M1 RB):mD A B sl M RB:=h
theorem pA {A B:fZ} {sl:Slots} {M:Mem} {RB:KB} (h:A sl M fun k M1=>if k=true then B sl M1 RB else RB false M1):jG A B sl M RB:=h
theorem Bq {M:Mem} {R:KD} (k:R (.d (.bool false)) M):kZ (.d .none) (.d .none) M R:=k
theorem Dt {x:Str} {M:Mem} {R:KD} (k:R (.d (.bool true)) M):kZ (.d (.str x)) (.d .none) M R:=k
theorem Km {x:Str} {M:Mem} {R:KD} (k:R (.d (.bool false)) M):mQ (.d (.str x)) (.d .none) M R:=k
theorem KY {M:Mem} {R:KD} (k:R (.d (.bool true)) M):mQ (.d .none) (.d .none) M R:=k
theorem Bm {r:PRs} {f:Ex→Nat→PRs} {z:Except Int (Ex×Nat)} (h:r.then f=some z): ∃r1,r=some r1∧((∃c,r1= .error c∧z= .error c)∨ ∃e j,r1= .ok (e,j)∧f e j=some z):=by
 match r,h with
 |some (.error c),h=>exact⟨_,rfl,.inl ⟨c,rfl,(Option.some.inj h).symm⟩⟩
 |some (.ok (e,j)),h=>exact⟨_,rfl,.inr ⟨e,j,rfl,h⟩⟩
def eX (c:Nat):Bool:=decide (97≤c) && decide (c≤122)
abbrev gK (c:Nat):Bool:=eX c||cO c
def rl (p:Nat→Bool) (l:List Nat):Nat:=(l.takeWhile p).length
abbrev eO:List Str:= ["var","limit","low","high","keep","set","halt","not","and","or","mod","if","then","else","min","max"]
abbrev jB:List Str:= ["..",":=","!=","<=",">=","+","-","*","=","<",">","(",")",","]
def qF (l:List Nat):Option Str:=jB.find? fun y=>decide (l.take (sg y).length=sg y)
def iV (s:List Nat) (i:Nat):Except Int Tk:=
 let c:=s.getD i 0
 if eX c=true then
  let w:=(s.drop i).take (rl gK (s.drop i))
  if tx w∉eO∧8<w.length then .error ((i:Int)+1)else .ok ⟨if tx w∈eO then "word" else "name",tx w,(i:Int)+1⟩
 else if cO c=true then
  let w:=(s.drop i).take (rl cO (s.drop i))
  if 6<w.length∨1<w.length∧c=48 then .error ((i:Int)+1)else .ok ⟨"number",tx w,(i:Int)+1⟩
 else match qF (s.drop i)with
  |some y=> .ok ⟨"symbol",y,(i:Int)+1⟩
  |none=> .error ((i:Int)+1)
theorem Vd {s:List Nat} {i:Nat} (h1:eX (s.getD i 0)=false) (h2:cO (s.getD i 0)=false):iV s i=match qF (s.drop i)with
  |some y=> .ok ⟨"symbol",y,(i:Int)+1⟩
  |none=> .error ((i:Int)+1):=by
 unfold iV
 dsimp only
 rw [h1,if_neg (by decide),h2,if_neg (by decide)]
def fH (s:List Nat):Nat→Nat→List Tk→Option (Except Int (List Tk))
 |0,i,acc=>if i<s.length then none else some (.ok (acc++ [⟨"end","",(s.length:Int)+1⟩]))
 |n+1,i,acc=>if i<s.length then
   (if s.getD i 0=32 then fH s n (i+1) acc else match iV s i with
    | .error c=>some (.error c)
    | .ok t=>if acc.length=120 then some (.error t.col)else fH s n (i+(sg t.text).length) (acc++ [t]))
  else some (.ok (acc++ [⟨"end","",(s.length:Int)+1⟩]))
theorem pY {p:Nat→Bool} {c:Nat} {l:List Nat} (h:p c=true):rl p (c::l)=rl p l+1:=by
 unfold rl
 rw [List.takeWhile_cons_of_pos h]
 rfl
theorem Fb {p:Nat→Bool} {c:Nat} {l:List Nat} (h:p c=false):rl p (c::l)=0:=by
 unfold rl
 rw [List.takeWhile_cons_of_neg (by rw [h];decide)]
 rfl
theorem Jr (p:Nat→Bool) (l:List Nat):rl p l≤l.length:=(List.takeWhile_prefix p).length_le
theorem vA {l:List Nat} {i:Nat} (h:i<l.length):l.drop i=l.getD i 0::l.drop (i+1):=by
 rw [List.drop_eq_getElem_cons h,List.getD_eq_getElem?_getD,List.getElem?_eq_getElem h]
 rfl
theorem Kg (p:Nat→Bool): ∀(l:List Nat),∀c∈l.take (rl p l),p c=true
 | [],c,h=>by simp at h
 |x::l,c,h=>by
  cases hx:p x with
  |false=>
   rw [Fb hx]at h
   cases h
  |true=>
   rw [pY hx,List.take_succ_cons]at h
   rcases List.mem_cons.mp h with rfl|h
   ·exact hx
   ·exact Kg p l c h
theorem xP (c:Nat):decide (c∈("abcdefghijklmnopqrstuvwxyz" :Str).cps.toList)=eX c:=by
 have e:("abcdefghijklmnopqrstuvwxyz" :Str).cps.toList=(List.range 26).map (97+ ·):=by decide+kernel
 rw [e]
 unfold eX
 by_cases h:97≤c∧c≤122
 ·rw [decide_eq_true h.1,decide_eq_true h.2]
  refine decide_eq_true (List.mem_map.mpr ⟨c-97,List.mem_range.mpr (by omega),by omega⟩)
 ·have h2: ¬c∈(List.range 26).map (97+ ·):=fun z=>by
   obtain⟨j,hj,e⟩:=List.mem_map.mp z
   have:=List.mem_range.mp hj
   omega
  rw [decide_eq_false h2]
  by_cases h1:97≤c
  ·rw [decide_eq_true h1,decide_eq_false (fun z=>h ⟨h1,z⟩)]
   rfl
  ·rw [decide_eq_false h1]
   rfl
theorem z9 (c:Nat):decide (c∈("0123456789" :Str).cps.toList)=cO c:=by
 have e:("0123456789" :Str).cps.toList=(List.range 10).map (48+ ·):=by decide+kernel
 rw [e]
 unfold cO
 by_cases h:48≤c∧c≤57
 ·rw [decide_eq_true h.1,decide_eq_true h.2]
  refine decide_eq_true (List.mem_map.mpr ⟨c-48,List.mem_range.mpr (by omega),by omega⟩)
 ·have h2: ¬c∈(List.range 10).map (48+ ·):=fun z=>by
   obtain⟨j,hj,e⟩:=List.mem_map.mp z
   have:=List.mem_range.mp hj
   omega
  rw [decide_eq_false h2]
  by_cases h1:48≤c
  ·rw [decide_eq_true h1,decide_eq_false (fun z=>h ⟨h1,z⟩)]
   rfl
  ·rw [decide_eq_false h1]
   rfl
theorem Mj (c:Nat):decide (c∈sg (("abcdefghijklmnopqrstuvwxyz" :Str)++ "0123456789"))=gK c:=by
 rw [uK]
 have e:decide (c∈sg ("abcdefghijklmnopqrstuvwxyz" :Str)++sg ("0123456789" :Str))=(decide (c∈sg ("abcdefghijklmnopqrstuvwxyz" :Str))||decide (c∈sg ("0123456789" :Str))):=by
  rw [Bool.eq_iff_iff]
  simp
 rw [e,show decide (c∈sg ("abcdefghijklmnopqrstuvwxyz" :Str))=eX c from xP c,show decide (c∈sg ("0123456789" :Str))=cO c from z9 c]
theorem oK {c:Nat} {S:Str} {M:Mem} {R:KD} (k:R (.d (.bool (decide (c∈sg S)))) M):g2 (inD false) (.d (.str ⟨#[c]⟩)) (.d (.str S)) M R:=by
 show R (.d (.bool (!(Builtin.Str.occurrences S ⟨#[c]⟩ 0 S.length 1).isEmpty))) M
 rw [PySem.StrLaws.found_one]
 exact k
theorem qC {z:Str} {i:Nat} {M:Mem} {R:KD} (hl:z.length≤1000000) (hi:i<(sg z).length) (k:R (.d (.str ⟨#[(sg z).getD i 0]⟩)) M):bf (.d (.str z)) (.d (.int (i:Nat))) M R:=by
 refine⟨small hl,bB (x:=(sg z).getD i 0) (atI_nat ?_) k⟩
 rw [List.getD_eq_getElem?_getD,List.getElem?_eq_getElem hi]
 rfl
theorem str_len (z:Str):z.length=(sg z).length:=by simp [Str.length]
theorem YQ {α:Type} (xs:List α) (i j:Nat):iH xs (some ((i:Nat):Int)) (some ((j:Nat):Int))=(xs.drop i).take (j-i):=by
 unfold iH
 rw [HT.sIx_nat,HT.sIx_nat]
 by_cases hi:i≤xs.length
 ·rw [Nat.min_eq_left hi]
  by_cases hj:j≤xs.length
  ·rw [Nat.min_eq_left hj]
  ·rw [Nat.min_eq_right (show xs.length≤j by omega),List.take_of_length_le (by rw [List.length_drop];exact Nat.le_refl _),List.take_of_length_le (by rw [List.length_drop];omega)]
 ·rw [Nat.min_eq_right (show xs.length≤i by omega),List.drop_of_length_le (Nat.le_refl xs.length),List.drop_of_length_le (show xs.length≤i by omega),List.take_nil,List.take_nil]
theorem Cr (z:Str) (i j:Nat):cutS z (some ((i:Nat):Int)) (some ((j:Nat):Int))=tx (((sg z).drop i).take (j-i)):=uW (by
 rw [Cq,YQ])
theorem sign_eq {c:Nat} {y:Str} {n:Nat} (hy:sg y= [n]):decide ((⟨#[c]⟩:Str)=y)=decide (c=n):=by
 by_cases h:c=n
 ·rw [decide_eq_true h]
  exact decide_eq_true (uW (by rw [hy,h]))
 ·rw [decide_eq_false h]
  refine decide_eq_false fun z=>h ?_
  have e:sg (⟨#[c]⟩:Str)=sg y:=by rw [z]
  rw [hy]at e
  exact(List.cons.inj e).1
theorem vm {i j:Int} {M:Mem} {R:KD} (k:R (.d (.int (i+j))) M):g2 aX (.d (.int i)) (.d (.int j)) M R:=k
theorem JN {Ex:XD} {sp:fV} {tas:eY} {sl:Slots} {M:Mem} {R:KD} (h:tas sl M fun xs M1=>sp xs M1 R fun n fs M2=>Ex n fs sl M2):Cu Ex sp tas sl M R:=h
theorem YK {i:Nat} {n m:Int} {f:Int→Int→Int} {D:fD} {sl:Slots} {M:Mem} (hs:sl[i]? =some (some (.d (.int n)))) (h:D.nx (sl.set i (some (.d (.int (f n m))))) M):sH i (dC (.d (.int m))) f D sl M:=by
 unfold sH
 rw [hs]
 exact h
theorem ae0 {i:Nat} {te:TD} {n m:Int} {f:Int→Int→Int} {D:fD} {sl:Slots} {M:Mem} (hs:sl[i]? =some (some (.d (.int n)))) (ht: ∀R:KD,R (.d (.int m)) M→te sl M R) (h:D.nx (sl.set i (some (.d (.int (f n m))))) M):sH i te f D sl M:=by
 unfold sH
 rw [hs]
 exact ht _ h
theorem ag7 {l:List Nat} (h: ∀c∈l,cO c=true) (h1:l≠ []) (h2:l.length≤600):PySem.intText? (tx l)=some ((NumText.digitsVal (sg (tx l)):Nat):Int)∧(tx l).length≤640:=by
 have e:sg (tx l)=l:=rfl
 refine⟨intText_digits (x:=tx l) (ahk (by rw [List.all_eq_true];exact h)) (by rw [show(tx l).cps.toList=l from rfl];exact h1) (by rw [str_len,e];omega),by rw [str_len,e];omega⟩
structure J_ (s:List Nat) (t:Tk):Prop where
 col:0≤t.col∧t.col≤(s.length:Int)
 num:t.kind= "number" →PySem.intText? t.text=some ((NumText.digitsVal (sg t.text):Nat):Int)∧t.text.length≤640
 fin:t.kind≠ "end"
 len:(sg t.text).length≤s.length+2
theorem Va {s:List Nat} {i:Nat} {t:Tk} (hi:i<s.length) (h:iV s i= .ok t):J_ s t:=by
 unfold iV at h
 dsimp only at h
 have tl: ∀k,((s.drop i).take k).length≤s.length:=fun k=>by rw [List.length_take,List.length_drop];omega
 by_cases h1:eX (s.getD i 0)=true
 ·rw [if_pos h1]at h
  by_cases h2:tx ((s.drop i).take (rl gK (s.drop i)))∉eO∧8<((s.drop i).take (rl gK (s.drop i))).length
  ·rw [if_pos h2]at h
   cases h
  ·rw [if_neg h2]at h
   cases h
   refine⟨⟨by show(0:Int)≤(i:Int)+1;omega,by show(i:Int)+1≤_;omega⟩,fun k=> ?_,?_,Nat.le_trans (tl _) (by omega)⟩
   ·dsimp only at k
    split at k
    ·exact absurd k (by decide+kernel)
    ·exact absurd k (by decide+kernel)
   ·dsimp only
    split
    ·decide+kernel
    ·decide+kernel
 ·rw [if_neg h1]at h
  by_cases h3:cO (s.getD i 0)=true
  ·rw [if_pos h3]at h
   split at h
   ·cases h
   ·rename_i h4
    cases h
    refine⟨⟨by show(0:Int)≤(i:Int)+1;omega,by show(i:Int)+1≤_;omega⟩,fun _=> ?_,by show("number" :Str)≠ "end";decide+kernel,Nat.le_trans (tl _) (by omega)⟩
    refine ag7 (Kg cO _) ?_ ?_
    ·rw [vA hi,pY h3,List.take_succ_cons]
     simp
    ·by_cases q:6<((s.drop i).take (rl cO (s.drop i))).length
     ·exact absurd (.inl q) h4
     ·omega
  ·rw [if_neg h3]at h
   split at h
   ·rename_i y hy
    cases h
    refine⟨⟨by show(0:Int)≤(i:Int)+1;omega,by show(i:Int)+1≤_;omega⟩,fun k=>absurd k (show("symbol" :Str)≠ "number" by decide+kernel),by show("symbol" :Str)≠ "end";decide+kernel,?_⟩
    have h2: ∀y∈jB,(sg y).length≤2:=by decide+kernel
    have:=h2 y (List.mem_of_find?_eq_some hy)
    show(sg y).length≤_
    omega
   ·cases h
theorem rE {s:List Nat} {n i:Nat} {acc:List Tk} (h: ¬i<s.length):fH s n i acc=some (.ok (acc++ [⟨"end","",(s.length:Int)+1⟩])):=by
 cases n with
 |zero=>unfold fH;rw [if_neg h]
 |succ n=>unfold fH;rw [if_neg h]
theorem U7 {s:List Nat} {acc:List Tk} (hs:s.length≤100000) (h: ∀t∈acc,J_ s t) (hl:acc.length≤120):nU (acc++ [⟨"end","",(s.length:Int)+1⟩]) where
 col:=fun t ht=>by
  rcases List.mem_append.mp ht with ht|ht
  ·have:=(h t ht).col
   exact⟨this.1,by omega⟩
  ·rw [List.mem_singleton.mp ht]
   exact⟨by show(0:Int)≤(s.length:Int)+1;omega,by show(s.length:Int)+1<_;omega⟩
 num:=fun t ht k=>by
  rcases List.mem_append.mp ht with ht|ht
  ·exact(h t ht).num k
  ·rw [List.mem_singleton.mp ht]at k
   exact absurd k (show("end" :Str)≠ "number" by decide+kernel)
 fin:=fun j t hj k=>by
  have hl:=(List.getElem?_eq_some_iff.mp hj).1
  rw [List.length_append,List.length_singleton]at hl ⊢
  by_cases q:j<acc.length
  ·omega
  ·have ej:j=acc.length:=by omega
   rw [ej,List.getElem?_append_right (Nat.le_refl _),Nat.sub_self]at hj
   have:=Option.some.inj hj
   rw [←this]at k
   exact absurd rfl k
 size:=by rw [List.length_append,List.length_singleton];omega
theorem B_ {s:List Nat} (hs:s.length≤100000): ∀(n i:Nat) (acc ts:List Tk),(∀t∈acc,J_ s t)→acc.length≤120→fH s n i acc=some (.ok ts)→nU ts
 |0,i,acc,ts,h,hl,e=>by
  by_cases hi:i<s.length
  ·unfold fH at e
   rw [if_pos hi]at e
   cases e
  ·rw [rE hi]at e
   cases e
   exact U7 hs h hl
 |n+1,i,acc,ts,h,hl,e=>by
  by_cases hi:i<s.length
  ·unfold fH at e
   rw [if_pos hi]at e
   split at e
   ·exact B_ hs n _ acc ts h hl e
   ·split at e
    ·cases e
    ·rename_i t ht
     split at e
     ·cases e
     ·rename_i ha
      refine B_ hs n _ (acc++ [t]) ts (fun x hx=> ?_) (by rw [List.length_append,List.length_singleton];omega) e
      rcases List.mem_append.mp hx with hx|hx
      ·exact h x hx
      ·rw [List.mem_singleton.mp hx]
       exact Va hi ht
  ·rw [rE hi]at e
   cases e
   exact U7 hs h hl
theorem Cp {s:List Nat}: ∀(n i:Nat) (acc ts:List Tk),fH s n i acc=some (.ok ts)→0<ts.length
 |0,i,acc,ts,e=>by
  by_cases hi:i<s.length
  ·unfold fH at e
   rw [if_pos hi]at e
   cases e
  ·rw [rE hi]at e
   cases e
   rw [List.length_append,List.length_singleton]
   omega
 |n+1,i,acc,ts,e=>by
  by_cases hi:i<s.length
  ·unfold fH at e
   rw [if_pos hi]at e
   split at e
   ·exact Cp n _ acc ts e
   ·split at e
    ·cases e
    ·split at e
     ·cases e
     ·exact Cp n _ _ ts e
  ·rw [rE hi]at e
   cases e
   rw [List.length_append,List.length_singleton]
   omega
theorem MK.up {M M':Mem} {a:Addr} {o:MO} (na:M a=none) (k:MK [a] (bD M a o) M'):MK [] M M':=fun b u e _=>by
 have hb:b≠a:=fun z=>by rw [z,na]at e;cases e
 exact k b u ((fO hb).trans e) (by simpa using hb)
theorem Mi {f:Int→Int→Bool} {i j:Int} {M:Mem} {R:KD} (k:R (.d (.bool (f i j))) M):g2 (jX f) (.d (.int i)) (.d (.int j)) M R:=k
theorem Mp {b:Bool} {M:Mem} {R:KD} (k:R (.d (.int (if b=true then 1 else 0))) M):g1 uN [.d (.bool b)] M R:=k
theorem JK {i j:Int} {M:Mem} {R:KD} (k:R (.d (.int (i-j))) M):g2 (DL.intOp (· - ·)) (.d (.int i)) (.d (.int j)) M R:=k
theorem eqI {i j:Int} {M:Mem} {R:KD} (k:R (.d (.bool (decide (i=j)))) M):g2 eU (.d (.int i)) (.d (.int j)) M R:=k
theorem jE {i j:Int} {M:Mem} {R:KD} (k:R (.d (.int (i+j))) M):g2 aX (.d (.int i)) (.d (.int j)) M R:=k
def Ex.okS (names:List Str):Ex→Prop
 | .int i=>0≤i∧i<10^6
 | .name x=>x∈names
 | .ite a b c=>a.okS names∧b.okS names∧c.okS names
 | .un _ a=>a.okS names
 | .bin _ a b=>a.okS names∧b.okS names
def qG:Op→Nat
 | .or=>1| .and=>2| .add=>5| .sub=>5| .mul=>6| .mod=>6| .min=>8| .max=>8|_=>4
def Ex.rnk:Ex→Nat
 | .int _=>8| .name _=>8| .ite _ _ _=>0| .un .not _=>3| .un .neg _=>7| .bin o _ _=>qG o
abbrev l1 (x:Str):List Str:= [x]
def par:Nat→List Str→List Str
 |0,l=>l
 |k+1,l=> "(" ::(par k l++l1 ")")
theorem Ag: ∀(k:Nat) (l:List Str),(par k l).length=l.length+2*k
 |0,l=>rfl
 |k+1,l=>by
  show((par k l++l1 ")").length+1)=_
  rw [List.length_append,Ag k l,List.length_singleton]
  omega
def Pk (e:Ex) (core:List Str→Prop) (s r:Nat) (l:List Str):Prop:= ∃k c,(e.rnk<r→1≤k)∧k≤s+(if e.rnk<r then 1 else 0)∧l=par k c∧core c
def v9:Op→Bool
 | .min| .max=>true
 |_=>false
def rA (o:Op):Nat:=qG o+if qG o=4 then 1 else 0
def Ex.Core:Ex→List Str→Prop
 | .int i,l=>l=l1 (toString i)
 | .name x,l=>l=l1 x
 | .ite a b c,l=> ∃la lb lc,Pk a a.Core 3 0 la∧Pk b b.Core 3 0 lb∧Pk c c.Core 3 0 lc∧l=l1 "if" ++la++l1 "then" ++lb++l1 "else" ++lc
 | .un .not a,l=> ∃la,Pk a a.Core 3 3 la∧l=l1 "not" ++la
 | .un .neg a,l=> ∃la,Pk a a.Core 3 7 la∧l=l1 "-" ++la
 | .bin o a b,l=>if v9 o=true then∃la lb,Pk a a.Core 3 0 la∧Pk b b.Core 3 0 lb∧l=l1 o.s++l1 "(" ++la++l1 "," ++lb++l1 ")"
  else∃la lb,Pk a a.Core 3 (rA o) la∧Pk b b.Core 3 (qG o+1) lb∧l=la++ [o.s]++lb
abbrev Ex.Wr (e:Ex) (s r:Nat) (l:List Str):Prop:=Pk e e.Core s r l
theorem Ex.Wr.mono {e:Ex} {s s' r:Nat} {l:List Str} (h:e.Wr s r l) (hs:s≤s'):e.Wr s' r l:=by
 obtain⟨k,c,h1,h2,h3,h4⟩:=h
 exact⟨k,c,h1,by omega,h3,h4⟩
def lU:Nat→Nat
 |0=>7
 |n+1=>3*lU n+11
theorem u5 {m n:Nat} (h:m≤n):lU m≤lU n:=by
 induction n with
 |zero=>
  have:m=0:=by omega
  rw [this]
  exact Nat.le_refl _
 |succ n ih=>
  rcases Nat.lt_or_ge n m with q|q
  ·have:m=n+1:=by omega
   rw [this]
   exact Nat.le_refl _
  ·have:=ih q
   show lU m≤3*lU n+11
   omega
theorem W0 {o:Op} (h:v9 o=false):1≤qG o∧qG o≤6:=by cases o<;>first|(exact⟨by decide,by decide⟩)|(cases h)
theorem adw (n:Nat):7≤lU n:=by
 cases n with
 |zero=>exact Nat.le_refl _
 |succ n=>show 7≤3*lU n+11;omega
theorem jT: ∀(e:Ex) (s r:Nat) (l:List Str),s≤3→r≤8→e.Wr s r l→l.length≤lU e.dep
 | .int i,s,r,l,hs,hr,⟨k,c,_,h2,h3,h4⟩=>by
  rw [if_neg (show¬(Ex.int i).rnk<r from by show¬8<r;omega)]at h2
  rw [h3,Ag,show c=l1 _ from h4]
  show 1+2*k≤7
  omega
 | .name x,s,r,l,hs,hr,⟨k,c,_,h2,h3,h4⟩=>by
  rw [if_neg (show¬(Ex.name x).rnk<r from by show¬8<r;omega)]at h2
  rw [h3,Ag,show c=l1 _ from h4]
  show 1+2*k≤7
  omega
 | .ite x y z,s,r,l,hs,hr,⟨k,c,_,h2,h3,la,lb,lc,ha,hb,hc,h4⟩=>by
  have h2:k≤s+1:=Nat.le_trans h2 (by split<;>omega)
  have a1:=jT x 3 0 la (Nat.le_refl _) (by omega) ha
  have a2:=jT y 3 0 lb (Nat.le_refl _) (by omega) hb
  have a3:=jT z 3 0 lc (Nat.le_refl _) (by omega) hc
  have m1:=u5 (show x.dep≤max x.dep (max y.dep z.dep) by omega)
  have m2:=u5 (show y.dep≤max x.dep (max y.dep z.dep) by omega)
  have m3:=u5 (show z.dep≤max x.dep (max y.dep z.dep) by omega)
  rw [h3,Ag,h4]
  simp only [List.length_append,List.length_cons,List.length_nil]
  show _≤3*lU (max x.dep (max y.dep z.dep))+11
  omega
 | .un o x,s,r,l,hs,hr,⟨k,c,_,h2,h3,h4⟩=>by
  have h2:k≤s+1:=Nat.le_trans h2 (by split<;>omega)
  have hx: ∃la:List Str,la.length≤lU x.dep∧c.length=la.length+1:=by
   cases o with
   |not=>
    obtain⟨la,ha,h4⟩:=h4
    exact⟨la,jT x 3 3 la (Nat.le_refl _) (by omega) ha,by rw [h4,List.length_append,List.length_singleton];omega⟩
   |neg=>
    obtain⟨la,ha,h4⟩:=h4
    exact⟨la,jT x 3 7 la (Nat.le_refl _) (by omega) ha,by rw [h4,List.length_append,List.length_singleton];omega⟩
  obtain⟨la,h5,h6⟩:=hx
  rw [h3,Ag,h6]
  show _≤3*lU x.dep+11
  omega
 | .bin o x y,s,r,l,hs,hr,⟨k,c,_,h2,h3,h4⟩=>by
  have h2:k≤s+1:=Nat.le_trans h2 (by split<;>omega)
  have m1:=u5 (show x.dep≤max x.dep y.dep by omega)
  have m2:=u5 (show y.dep≤max x.dep y.dep by omega)
  have p1:=adw (max x.dep y.dep)
  have h5:c.length≤2*lU (max x.dep y.dep)+4:=by
   unfold Ex.Core at h4
   by_cases hm:v9 o=true
   ·rw [if_pos hm]at h4
    obtain⟨la,lb,ha,hb,h4⟩:=h4
    have a1:=jT x 3 0 la (Nat.le_refl _) (by omega) ha
    have a2:=jT y 3 0 lb (Nat.le_refl _) (by omega) hb
    rw [h4]
    simp only [List.length_append,List.length_cons,List.length_nil]
    omega
   ·rw [if_neg hm]at h4
    obtain⟨la,lb,ha,hb,h4⟩:=h4
    have hm:=W0 (Bool.eq_false_iff.mpr hm)
    have a1:=jT x 3 (rA o) la (Nat.le_refl _) (by unfold rA;split<;>omega) ha
    have a2:=jT y 3 (qG o+1) lb (Nat.le_refl _) (by omega) hb
    rw [h4]
    simp only [List.length_append,List.length_cons,List.length_nil]
    omega
  rw [h3,Ag]
  show _≤3*lU (max x.dep y.dep)+11
  omega
abbrev wM (k:Nat):List Nat:=List.replicate k 32
def bad (c d:Nat):Prop:=(gK c=true∧d∉sg ("+-*=<>!(),:." :Str))∨(c∈sg ("<>!:=." :Str)∧d∈sg ("=." :Str))
def V9 (T v:List Nat):Prop:= ∀c d v',T.getLast? =some c→v=d::v'→d=32∨ ¬bad c d
def Fw:List Str→List Nat→Prop
 | [],u=> ∃k,u=wM k
 |t::ts,u=> ∃k v,u=wM k++(sg t++v)∧V9 (sg t) v∧Fw ts v
def JI (done:List Str) (T:List Nat):Prop:= ∀rest v,Fw rest v→V9 T v→Fw (done++rest) (T++v)
theorem ahg:JI [] []:=fun _ _ h _=>h
theorem ad3 {done:List Str} {T:List Nat} {t:Str} {k:Nat} (h:JI done T) (ht:sg t≠ []) (hk: ∀c d,T.getLast? =some c→(sg t).head? =some d→bad c d→1≤k):JI (done++ [t]) (T++wM k++sg t):=fun rest v hv hn=>by
 rw [List.append_assoc,List.append_assoc,List.append_assoc]
 refine h (t::rest) (wM k++(sg t++v)) ⟨k,v,rfl,fun c d v' hc=>hn c d v' ?_,hv⟩ fun c d v' hc hd=> ?_
 ·rw [List.getLast?_append,hc]
  rfl
 ·match k with
  |0=>
   obtain⟨x,xs,ex⟩:=List.exists_cons_of_ne_nil ht
   rw [ex]at hd
   have e1:=(List.cons.inj hd).1
   subst e1
   exact .inr fun hb=>absurd (hk c x hc (by rw [ex];rfl) hb) (by omega)
  |k+1=>exact .inl (List.cons.inj hd).1.symm
theorem ac9 {done:List Str} {T:List Nat} (h:JI done T) (k:Nat):Fw done (T++wM k):=by
 have:=h [] (wM k) ⟨k,rfl⟩ fun c d v' _ hd=>by
  match k with
  |0=>cases hd
  |k+1=>exact .inl (List.cons.inj hd).1.symm
 rw [List.append_nil]at this
 exact this
def kOf (t:Str):Str:=if t∈eO then "word" else match sg t with
 | []=> "symbol"
 |c::_=>if eX c=true then "name" else if cO c=true then "number" else "symbol"
abbrev CW:List Str:= ["=","!=","<","<=",">",">=","+","-","*","(",")",",","..",":="]
inductive lA (t:Str):Prop
 |wd (c:Nat) (r:List Nat):sg t=c::r→eX c=true→(∀x∈r,gK x=true)→(t∉eO→(sg t).length≤8)→lA t
 |nm (c:Nat) (r:List Nat):sg t=c::r→cO c=true→(∀x∈r,cO x=true)→(sg t).length≤6→(1<(sg t).length→c≠48)→t∉eO→lA t
 |sy:t∈CW→lA t
theorem TJ {c:Nat} (h:cO c=true):gK c=true:=by
 show(eX c||cO c)=true
 rw [h,Bool.or_true]
theorem adA {c:Nat} (h:eX c=true):gK c=true:=by
 show(eX c||cO c)=true
 rw [h]
 rfl
theorem ad8 {c:Nat} (h:cO c=true):eX c=false:=by
 unfold cO at h
 unfold eX
 simp only [Bool.and_eq_true,decide_eq_true_eq]at h
 rw [decide_eq_false (show¬97≤c by omega)]
 rfl
theorem aep {t:Str} (h:lA t): ∃c r,sg t=c::r∧c≠32:=by
 cases h with
 |wd c r e h1=>exact⟨c,r,e,fun z=>by rw [z]at h1;cases h1⟩
 |nm c r e h1=>exact⟨c,r,e,fun z=>by rw [z]at h1;cases h1⟩
 |sy h=>
  have all: ∀t∈CW,∃c r,sg t=c::r∧c≠32:=by
   intro t ht
   simp only [List.mem_cons,List.not_mem_nil,or_false]at ht
   rcases ht with rfl|rfl|rfl|rfl|rfl|rfl|rfl|rfl|rfl|rfl|rfl|rfl|rfl|rfl<;>exact⟨_,_,rfl,by decide⟩
  exact all t h
theorem aec {x a b:Str}:(x∈ [a,b])↔(x=a∨x=b):=by simp
theorem afq: ∀{n:Nat},10≤n→(TL.numL n).head? ≠some 48:=by
 have main: ∀n,0<n→(TL.numL n).head? ≠some 48:=by
  intro n
  induction n using Nat.strongRecOn with
  |ind n ih=>
   intro h0
   by_cases h:n<10
   ·rw [TL.numL_lt h]
    intro q
    have:=Option.some.inj q
    omega
   ·rw [TL.numL_step (by omega)]
    have h1:=ih (n/10) (by omega) (by omega)
    obtain⟨c,r,ec⟩:=List.exists_cons_of_ne_nil (TL.numL_ne (n/10))
    rw [ec]at h1 ⊢
    exact h1
 exact fun {n} h=>main n (by omega)
theorem af4 {i:Int} (h0:0≤i) (h1:i<10^6):lA (toString i)∧kOf (toString i)= "number" ∧((NumText.digitsVal (sg (toString i:Str)):Nat):Int)=i∧(toString i:Str)∉(["if","not"]:List Str):=by
 obtain⟨n,rfl⟩:=Int.eq_ofNat_of_zero_le h0
 have e:sg (toString ((n:Nat):Int):Str)=TL.numL n:=TL.tl_num n
 have hd:=TL.numL_digits n
 have hl:=TL.numL_len (n:=n) (k:=6) (by decide) (by omega)
 obtain⟨c,r,ec⟩:=List.exists_cons_of_ne_nil (TL.numL_ne n)
 have dgs: ∀x∈TL.numL n,cO x=true:=fun x hx=>by
  have:=hd x hx
  unfold cO
  rw [decide_eq_true this.1,decide_eq_true this.2]
  rfl
 have hc:=dgs c (by rw [ec];simp)
 have nk: ∀t∈eO,(toString ((n:Nat):Int):Str)≠t:=fun t ht q=>by
  have all: ∀t∈eO,∀c r,sg t=c::r→cO c=false:=by
   intro t ht
   simp only [List.mem_cons,List.not_mem_nil,or_false]at ht
   rcases ht with rfl|rfl|rfl|rfl|rfl|rfl|rfl|rfl|rfl|rfl|rfl|rfl|rfl|rfl|rfl|rfl<;>(intro c r e;cases e;rfl)
  have:=all t ht c r (by rw [←q,e,ec])
  rw [this]at hc
  cases hc
 have nk2:(toString ((n:Nat):Int):Str)∉eO:=fun h=>nk _ h rfl
 refine⟨.nm c r (by rw [e,ec]) hc (fun x hx=>dgs x (by rw [ec];simp [hx])) (by rw [e];exact hl) (fun h=> ?_) nk2,?_,by rw [e,TL.numL_val],fun h=> ?_⟩
 ·rw [e]at h
  intro q
  have h10:10≤n:=by
   by_cases q:n<10
   ·rw [TL.numL_lt q]at h
    exact absurd h (by simp)
   ·omega
  exact afq h10 (by rw [ec,q];rfl)
 ·unfold kOf
  rw [if_neg nk2,e,ec]
  dsimp only
  rw [if_neg (by rw [ad8 hc];decide),if_pos hc]
 ·rcases aec.mp h with q|q
  ·exact nk "if" (by decide+kernel) q
  ·exact nk "not" (by decide+kernel) q
def At (ts:List Tk) (i:Nat) (l:List Str):Prop:= ∀j t,l[j]? =some t→(tk ts (i+j)).text=t∧(tk ts (i+j)).kind=kOf t
theorem At.hd {ts:List Tk} {i:Nat} {t:Str} {l:List Str} (h:At ts i (t::l)):(tk ts i).text=t∧(tk ts i).kind=kOf t:=h 0 t rfl
theorem At.tl {ts:List Tk} {i:Nat} {t:Str} {l:List Str} (h:At ts i (t::l)):At ts (i+1) l:=fun j u hj=>by
 have:=h (j+1) u hj
 rw [show i+(j+1)=i+1+j by omega]at this
 exact this
theorem At.is {ts:List Tk} {i:Nat} {t:Str} {l:List Str} {k:Str} (h:At ts i (t::l)) (hk:kOf t=k):dU ts k t i:=⟨by rw [h.hd.2,hk],h.hd.1⟩
structure St (ts:List Tk) (r j:Nat):Prop where
 or:r≤1→cQ ts "word" [.or] j=none
 and:r≤2→cQ ts "word" [.and] j=none
 cmp:r≤4→cQ ts "symbol" nY j=none
 add:r≤5→cQ ts "symbol" [.add,.sub] j=none
 prod:r≤6→jD ts j=none
theorem St.mono {ts:List Tk} {r r' j:Nat} (h:St ts r j) (hr:r≤r'):St ts r' j:=⟨fun q=>h.or (by omega),fun q=>h.and (by omega),fun q=>h.cmp (by omega),fun q=>h.add (by omega),fun q=>h.prod (by omega)⟩
def Fg (ts:List Tk):Nat→Nat→Option Op
 |1=>cQ ts "word" [.or]
 |2=>cQ ts "word" [.and]
 |5=>cQ ts "symbol" [.add,.sub]
 |_=>jD ts
def JX (r:Nat):Prop:=r=1∨r=2∨r=5∨r=6
theorem aej {ts:List Tk} {r j:Nat} (h:St ts r j) (hr:JX r):Fg ts r j=none:=by
 rcases hr with rfl|rfl|rfl|rfl
 ·exact h.or (by decide)
 ·exact h.and (by decide)
 ·exact h.add (by decide)
 ·exact h.prod (by decide)
def lv:Nat→PK
 |0=> .expr|1=> .disj|2=> .conj|3=> .neg|4=> .cmp|5=> .add|6=> .prod|_=> .fac
def PG (nm:List Str) (ts:List Tk) (K:Nat) (k:PK) (d:Int) (i:Nat) (e:Ex) (j:Nat):Prop:= ∀n,K≤n→pP nm ts n k d i=dh e j
theorem PG.mono {nm:List Str} {ts:List Tk} {K K':Nat} {k:PK} {d:Int} {i:Nat} {e:Ex} {j:Nat} (h:PG nm ts K k d i e j) (hK:K≤K'):PG nm ts K' k d i e j:=fun n hn=>h n (by omega)
theorem aex {nm:List Str} {ts:List Tk} {r n:Nat} {d:Int} {i:Nat} (hr:JX r):pP nm ts (n+1) (lv r) d i=(pP nm ts n (lv (r+1)) d i).then fun a i=>fG (Fg ts r) (pP nm ts n (lv (r+1)) d) ts.length a i:=by
 rcases hr with rfl|rfl|rfl|rfl<;>rfl
theorem afv {op:Nat→Option Op} {sub:Nat→PRs} {k j:Nat} {e:Ex} (h:op j=none) (hk:0<k):fG op sub k e j=dh e j:=by
 match k,hk with
 |k+1,_=>
  unfold fG
  rw [h]
def CH (nm:List Str) (ts:List Tk) (K r:Nat) (d:Int) (i:Nat) (e:Ex) (j m:Nat):Prop:= ∀n,K≤n→ ∀k,m≤k→ ∃k',k≤k'+m∧((pP nm ts n (lv (r+1)) d i).then fun a i=>fG (Fg ts r) (pP nm ts n (lv (r+1)) d) k a i)=fG (Fg ts r) (pP nm ts n (lv (r+1)) d) k' e j
theorem CH.of {nm:List Str} {ts:List Tk} {K r:Nat} {d:Int} {i:Nat} {e:Ex} {j:Nat} (h:PG nm ts K (lv (r+1)) d i e j) (m:Nat):CH nm ts K r d i e j m:=fun n hn k _=>⟨k,by omega,by rw [h n hn];rfl⟩
theorem CH.end {nm:List Str} {ts:List Tk} {K r:Nat} {d:Int} {i:Nat} {e:Ex} {j m:Nat} (h:CH nm ts K r d i e j m) (hr:JX r) (hm:m<ts.length) (hs:St ts r j):PG nm ts (K+1) (lv r) d i e j:=fun n hn=>by
 obtain⟨n,rfl⟩: ∃m,n=m+1:=⟨n-1,by omega⟩
 rw [aex hr]
 obtain⟨k',h1,h2⟩:=h n (by omega) ts.length (by omega)
 rw [h2]
 exact afv (aej hs hr) (by omega)
theorem At.len {ts:List Tk} {i j:Nat} {l:List Str} (h:At ts i l) (e:i=j):At ts j l:=by rw [←e];exact h
theorem Bj {t:Str} {c:Nat} {r:List Nat} (e:sg t=c::r) (h:(eX c && r.all gK && decide (t∈eO))=true):lA t:=by
 rw [Bool.and_eq_true,Bool.and_eq_true]at h
 exact .wd c r e h.1.1 (List.all_eq_true.mp h.1.2) fun q=>absurd (of_decide_eq_true h.2) q
theorem Ym (o:Op):lA o.s:=by
 cases o<;>first|(exact .sy (by decide+kernel))|(exact Bj rfl (by decide+kernel))
theorem za {t:Str} (h:t∈CW:=by decide+kernel):lA t:= .sy h
theorem Ud: ∀(k:Nat) (c:List Str) (t:Str),t∈par k c→t∈c∨t= "(" ∨t= ")"
 |0,c,t,h=> .inl h
 |k+1,c,t,h=>by
  have h:t∈("(" :Str)::(par k c++l1 ")"):=h
  rcases List.mem_cons.mp h with e|h
  ·exact .inr (.inl e)
  ·rcases List.mem_append.mp h with h|h
   ·exact Ud k c t h
   ·exact .inr (.inr (List.mem_singleton.mp h))
theorem ag6 {k:Nat} {c:List Str} (h: ∀t∈c,lA t): ∀t∈par k c,lA t:=fun t ht=>by
 rcases Ud k c t ht with q|q|q
 ·exact h t q
 ·rw [q];exact za
 ·rw [q];exact za
theorem rJ {e:Ex} {core:List Str→Prop} {s r:Nat} {l:List Str} (hc: ∀c,core c→ ∀t∈c,lA t) (h:Pk e core s r l): ∀t∈l,lA t:=by
 obtain⟨k,c,_,_,rfl,h4⟩:=h
 exact ag6 (hc c h4)
theorem jk {p:Str→Prop} {a b:List Str} (ha: ∀t∈a,p t) (hb: ∀t∈b,p t): ∀t∈a++b,p t:=fun t ht=>(List.mem_append.mp ht).elim (ha t) (hb t)
theorem oO {p:Str→Prop} {a:Str} (ha:p a): ∀t∈l1 a,p t:=fun t ht=>by rw [List.mem_singleton.mp ht];exact ha
theorem vB {names:List Str} (hn: ∀x∈names,lA x): ∀(e:Ex),e.okS names→ ∀c,e.Core c→ ∀t∈c,lA t
 | .int v,ok,c,hc=>by
  have hc:c=l1 (toString v):=hc
  rw [hc]
  exact oO (af4 ok.1 ok.2).1
 | .name x,ok,c,hc=>by
  have hc:c=l1 x:=hc
  rw [hc]
  exact oO (hn x ok)
 | .ite a b f,ok,c,hc=>by
  have ga:=vB hn a ok.1
  have gb:=vB hn b ok.2.1
  have gf:=vB hn f ok.2.2
  obtain⟨la,lb,lf,ha,hb,hf,rfl⟩:=hc
  exact jk (jk (jk (jk (jk (oO (Bj rfl (by decide+kernel))) (rJ ga ha)) (oO (Bj rfl (by decide+kernel)))) (rJ gb hb)) (oO (Bj rfl (by decide+kernel)))) (rJ gf hf)
 | .un .not a,ok,c,hc=>by
  have ga:=vB hn a ok
  obtain⟨la,ha,rfl⟩:=hc
  exact jk (oO (Bj rfl (by decide+kernel))) (rJ ga ha)
 | .un .neg a,ok,c,hc=>by
  have ga:=vB hn a ok
  obtain⟨la,ha,rfl⟩:=hc
  exact jk (oO za) (rJ ga ha)
 | .bin o a b,ok,c,hc=>by
  have ga:=vB hn a ok.1
  have gb:=vB hn b ok.2
  unfold Ex.Core at hc
  by_cases hm:v9 o=true
  ·rw [if_pos hm]at hc
   obtain⟨la,lb,ha,hb,rfl⟩:=hc
   exact jk (jk (jk (jk (jk (oO (Ym o)) (oO za)) (rJ ga ha)) (oO za)) (rJ gb hb)) (oO za)
  ·rw [if_neg hm]at hc
   obtain⟨la,lb,ha,hb,rfl⟩:=hc
   exact jk (jk (rJ ga ha) (oO (Ym o))) (rJ gb hb)
theorem agT: ∀t∈eO,(sg t).length≤8:=by decide+kernel
theorem ahq: ∀t∈CW,(sg t).length≤8:=by decide+kernel
theorem U_ {t:Str} (h:lA t):sg t≠ []∧(sg t).length≤8:=by
 obtain⟨c,r,e,_⟩:=aep h
 refine⟨by rw [e];simp,?_⟩
 cases h with
 |wd c r e h1 h2 h3=>
  by_cases q:t∈eO
  ·exact agT t q
  ·exact h3 q
 |nm c r e h1 h2 h3=>omega
 |sy h=>exact ahq t h
theorem acf {names:List Str} (h: ∀x∈names,lA x): ∀x∈names,x.length≤8∧(x.cps.toList.all fun c=>decide (c<16^8))=true:=fun x hx=>by
 have g:=h x hx
 refine⟨by rw [str_len];exact(U_ g).2,?_⟩
 have wd: ∀c,gK c=true→c<16^8:=fun c hc=>by
  simp only [eX,cO,Bool.or_eq_true,Bool.and_eq_true,decide_eq_true_eq]at hc
  omega
 rw [List.all_eq_true]
 intro c hc
 refine decide_eq_true ?_
 cases g with
 |wd d r e h1 h2=>
  rw [show x.cps.toList=d::r from e]at hc
  rcases List.mem_cons.mp hc with q|q
  ·rw [q];exact wd d (adA h1)
  ·exact wd c (h2 c q)
 |nm d r e h1 h2=>
  rw [show x.cps.toList=d::r from e]at hc
  rcases List.mem_cons.mp hc with q|q
  ·rw [q];exact wd d (TJ h1)
  ·exact wd c (TJ (h2 c q))
 |sy h=>
  have all: ∀t∈CW,(t.cps.toList.all fun c=>decide (c<16^8))=true:=by decide+kernel
  exact of_decide_eq_true (List.all_eq_true.mp (all x h) c hc)
def Ex.opS:Ex→Str
 | .int _=> "int" | .name _=> "name" | .ite _ _ _=> "if" | .un o _=>o.s| .bin o _ _=>o.s
def Ex.argD:Ex→List PyData
 | .int i=> [.int i]| .name x=> [.str x]| .ite a b c=> [a.d,b.d,c.d]| .un _ a=> [a.d]| .bin _ a b=> [a.d,b.d]
theorem Ex.d_eq (e:Ex):e.d= .tuple (.str e.opS::e.argD):=by cases e<;>rfl
theorem oh {x y:List Str} {M:Mem} {R:KD} (h:x.length+y.length≤10000) (k:R (.d (.list ((x++y).map PyData.str))) M):g2 aX (.d (.list (x.map PyData.str))) (.d (.list (y.map PyData.str))) M R:=by
 refine⟨?_,?_⟩
 ·rw [List.length_map,List.length_map]
  exact Nat.le_trans h (Nat.le_of_ble_eq_true rfl)
 ·rw [←List.map_append]
  exact k
theorem Es {x y:Str} {sl:Slots} {M:Mem} {R:KD} (k:R (.d (.tuple (([x,y]:List Str).map PyData.str))) M):dTup (aj (dC (.d (.str x))) (aj (dC (.d (.str y))) aH)) sl M R:=bB rfl ⟨Nat.le_of_ble_eq_true rfl,k⟩
theorem acq {sl:Slots} {M:Mem} {RB:KB} (h:RB true M):qX sl M RB:=h
theorem afo {e:Ex} {M:Mem} {R:KD} (k:R (.d (.str e.opS)) M):bf (.d e.d) (.d (.int 0)) M R:=by
 rw [e.d_eq]
 exact bB (x:= .str e.opS) (show atI _ ((0:Nat):Int)=some _ from atI_nat rfl) k
theorem nQ {g:jh} {gs:sX} {x:DV} {xs:List DV} {sl:Slots} {M:Mem} {K:Slots→Mem→Prop} (h:g x sl M fun sl2 M2=>gs xs sl2 M2 K):nA g gs (x::xs) sl M K:=h
theorem zJ {sl:Slots} {M:Mem} {K:Slots→Mem→Prop} (h:K sl M):wH [] sl M K:=h
def cK:PK→Nat
 | .expr=>1| .fac=>2| .prod=>3| .add=>4| .cmp=>5| .neg=>6| .conj=>7| .disj=>8
def Wz (k:PK) (d:Int):Nat:=8*(30-d).toNat+cK k
def Ex.sz:Ex→Nat
 | .int _=>1
 | .name _=>1
 | .ite a b c=>a.sz+b.sz+c.sz+1
 | .un _ a=>a.sz+1
 | .bin _ a b=>a.sz+b.sz+1
theorem Yv {ts:List Tk} {i:Nat} (h:ts.length≤i):(tk ts i).kind= "end" :=by
 unfold tk
 rw [List.getD_eq_getElem?_getD,List.getElem?_eq_none h]
 rfl
structure uR (t:Tk):Prop where
 kind:t.kind= "end" ∨t.kind=kOf t.text
 num:t.kind= "number" →(∀c∈sg t.text,cO c=true)∧(sg t.text).length≤6
theorem rF {ts:List Tk} (ok:nU ts) {i:Nat} (h:(tk ts i).kind≠ "end"):i+1<ts.length:=by
 by_cases q:i<ts.length
 ·exact ok.fin i _ (nO q) h
 ·exact absurd (Yv (by omega)) h
def GoodR (nm:List Str) (ts:List Tk) (i m:Nat) (r:Except Int (Ex×Nat)):Prop:= ∀e j,r= .ok (e,j)→i+m≤j∧j<ts.length∧e.sz≤j-i∧e.okS nm
def iI (nm:List Str) (ts:List Tk) (i m:Nat) (r:PRs):Prop:= ∃x,r=some x∧GoodR nm ts i m x
theorem Fj {nm:List Str} {ts:List Tk} {i m:Nat} {c:Int}:iI nm ts i m (some (.error c)):=⟨_,rfl,fun e j h=>by cases h⟩
theorem rC {nm:List Str} {ts:List Tk} {i m:Nat} {e:Ex} {j:Nat} (h1:i+m≤j) (h2:j<ts.length) (h3:e.sz≤j-i) (h4:e.okS nm):iI nm ts i m (dh e j):=⟨_,rfl,fun e' j' h=>by cases h;exact⟨h1,h2,h3,h4⟩⟩
theorem mU {nm:List Str} {ts:List Tk} {i i' m m':Nat} {r:PRs} {f:Ex→Nat→PRs} (h:iI nm ts i m r) (hf: ∀e j,i+m≤j→j<ts.length→e.sz≤j-i→e.okS nm→iI nm ts i' m' (f e j)):iI nm ts i' m' (r.then f):=by
 obtain⟨x,rfl,hx⟩:=h
 match x,hx with
 | .error c,_=>exact Fj
 | .ok (e,j),hx=>
  obtain⟨h1,h2,h3,h4⟩:=hx e j rfl
  exact hf e j h1 h2 h3 h4
theorem vN {nm:List Str} {ts:List Tk} {i i' m':Nat} {kind x:Str} {f:Nat→PRs} (ok:nU ts) (hk:kind≠ "end") (hf:i+1<ts.length→iI nm ts i' m' (f (i+1))):iI nm ts i' m' (cX ts kind x i f):=by
 unfold cX
 by_cases h:dU ts kind x i
 ·rw [if_pos h]
  exact hf (rF ok (by rw [h.1];exact hk))
 ·rw [if_neg h]
  exact Fj
theorem Jl {nm:List Str} {ts:List Tk} {i i' m':Nat} {d:Int} {r:PRs} (h:d+1≤30→iI nm ts i' m' r):iI nm ts i' m' (jc ts d i r):=by
 unfold jc
 by_cases q:30<d+1
 ·rw [if_pos q]
  exact Fj
 ·rw [if_neg q]
  exact h (by omega)
theorem C_ {nm:List Str} {ts:List Tk} {op:Nat→Option Op} (ok:nU ts) (hop: ∀i o,op i=some o→(tk ts i).kind≠ "end") {sub:Nat→PRs} (hs: ∀i,i<ts.length→iI nm ts i 1 (sub i)): ∀(k:Nat) (a:Ex) (i i0:Nat),i<ts.length→ts.length≤k+i→i0<i→a.sz≤i-i0→a.okS nm→iI nm ts i0 1 (fG op sub k a i)
 |0,a,i,i0,hi,hk,_,_,_=>by omega
 |k+1,a,i,i0,hi,hk,h0,hz,ha=>by
  unfold fG
  cases ho:op i with
  |none=>exact rC (by omega) hi hz ha
  |some o=>
   have hl:=rF ok (hop i o ho)
   refine mU (hs (i+1) hl) fun b j h1 h2 h3 h4=> ?_
   refine C_ ok hop hs k (.bin o a b) j i0 h2 (by omega) (by omega) ?_ ⟨ha,h4⟩
   show a.sz+b.sz+1≤j-i0
   omega
theorem yW {ts:List Tk} {kind:Str} {l:List Op} {i:Nat} {o:Op} (h:cQ ts kind l i=some o) (hk:kind≠ "end"):(tk ts i).kind≠ "end" :=by
 rw [(Zx h).1]
 exact hk
theorem adV {ts:List Tk} {i:Nat} {o:Op} (h:jD ts i=some o):(tk ts i).kind≠ "end" :=by
 unfold jD at h
 cases e:cQ ts "symbol" [.mul] i with
 |some o'=>exact yW e (by decide+kernel)
 |none=>
  rw [e]at h
  exact yW h (by decide+kernel)
theorem adt {l:List Nat} (h: ∀c∈l,cO c=true):NumText.digitsVal l<10^l.length:=by
 have key: ∀(l:List Nat) (a m:Nat),(∀c∈l,cO c=true)→a<10^m→l.foldl (fun a c=>a*10+(c-48)) a<10^(m+l.length):=by
  intro l
  induction l with
  |nil=>intro a m _ h;exact h
  |cons c l ih=>
   intro a m hl ha
   have hc:=hl c List.mem_cons_self
   have:c-48≤9:=by
    unfold cO at hc
    rw [Bool.and_eq_true]at hc
    have:=of_decide_eq_true hc.2
    omega
   have h2:=ih (a*10+(c-48)) (m+1) (fun x hx=>hl x (List.mem_cons_of_mem _ hx)) (by rw [Nat.pow_succ];omega)
   rw [List.foldl_cons,List.length_cons,show m+(l.length+1)=m+1+l.length by omega]
   exact h2
 have:=key l 0 0 h (by decide)
 rw [Nat.zero_add]at this
 exact this
theorem pO {nm:List Str} {ts:List Tk} (ok:nU ts) (w: ∀t∈ts,uR t): ∀(n:Nat) (k:PK) (d:Int) (i:Nat),0≤d→d≤30→Wz k d≤n→i<ts.length→iI nm ts i 1 (pP nm ts n k d i)
 |0,k,d,i,h0,h1,hn,hi=>by
  exfalso
  unfold Wz at hn
  cases k<;>simp [cK]at hn
 |n+1,.expr,d,i,h0,h1,hn,hi=>by
  have hn:8*(30-d).toNat+1≤n+1:=hn
  show iI nm ts i 1 (jc ts d i (if dU ts "word" "if" i then
   (pP nm ts n .expr (d+1) (i+1)).then fun c i=>cX ts "word" "then" i fun i=>(pP nm ts n .expr (d+1) i).then fun a i=>cX ts "word" "else" i fun i=>(pP nm ts n .expr (d+1) i).then fun b i=>dh (.ite c a b) i
   else pP nm ts n .disj (d+1) i))
  refine Jl fun hd=> ?_
  have e1: ∀i,i<ts.length→iI nm ts i 1 (pP nm ts n .expr (d+1) i):=fun i hi=>pO ok w n .expr (d+1) i (by omega) hd (by show 8*(30-(d+1)).toNat+1≤n;omega) hi
  by_cases h:dU ts "word" "if" i
  ·rw [if_pos h]
   have hl:=rF ok (i:=i) (by rw [h.1];decide+kernel)
   refine mU (e1 (i+1) hl) fun c j c1 c2 c3 c4=>vN ok (by decide+kernel) fun hj=> ?_
   refine mU (e1 (j+1) hj) fun a j2 a1 a2 a3 a4=>vN ok (by decide+kernel) fun hj2=> ?_
   refine mU (e1 (j2+1) hj2) fun b j3 b1 b2 b3 b4=>rC (by omega) b2 ?_ ⟨c4,a4,b4⟩
   show c.sz+a.sz+b.sz+1≤j3-i
   omega
  ·rw [if_neg h]
   exact pO ok w n .disj (d+1) i (by omega) hd (by show 8*(30-(d+1)).toNat+8≤n;omega) hi
 |n+1,.disj,d,i,h0,h1,hn,hi=>by
  have hn:8*(30-d).toNat+8≤n+1:=hn
  have e1: ∀i,i<ts.length→iI nm ts i 1 (pP nm ts n .conj d i):=fun i hi=>pO ok w n .conj d i h0 h1 (by show 8*(30-d).toNat+7≤n;omega) hi
  show iI nm ts i 1 ((pP nm ts n .conj d i).then fun a i=>fG (cQ ts "word" [.or]) (pP nm ts n .conj d) ts.length a i)
  exact mU (e1 i hi) fun a j a1 a2 a3 a4=>C_ ok (fun i o h=>yW h (by decide+kernel)) e1 _ a j i a2 (by omega) (by omega) a3 a4
 |n+1,.conj,d,i,h0,h1,hn,hi=>by
  have hn:8*(30-d).toNat+7≤n+1:=hn
  have e1: ∀i,i<ts.length→iI nm ts i 1 (pP nm ts n .neg d i):=fun i hi=>pO ok w n .neg d i h0 h1 (by show 8*(30-d).toNat+6≤n;omega) hi
  show iI nm ts i 1 ((pP nm ts n .neg d i).then fun a i=>fG (cQ ts "word" [.and]) (pP nm ts n .neg d) ts.length a i)
  exact mU (e1 i hi) fun a j a1 a2 a3 a4=>C_ ok (fun i o h=>yW h (by decide+kernel)) e1 _ a j i a2 (by omega) (by omega) a3 a4
 |n+1,.neg,d,i,h0,h1,hn,hi=>by
  have hn:8*(30-d).toNat+6≤n+1:=hn
  show iI nm ts i 1 (if dU ts "word" "not" i then jc ts d (i+1) ((pP nm ts n .neg (d+1) (i+1)).then fun a i=>dh (.un .not a) i)else pP nm ts n .cmp d i)
  by_cases h:dU ts "word" "not" i
  ·rw [if_pos h]
   have hl:=rF ok (i:=i) (by rw [h.1];decide+kernel)
   refine Jl fun hd=>mU (pO ok w n .neg (d+1) (i+1) (by omega) hd (by show 8*(30-(d+1)).toNat+6≤n;omega) hl) fun a j a1 a2 a3 a4=>rC (by omega) a2 ?_ a4
   show a.sz+1≤j-i
   omega
  ·rw [if_neg h]
   exact pO ok w n .cmp d i h0 h1 (by show 8*(30-d).toNat+5≤n;omega) hi
 |n+1,.cmp,d,i,h0,h1,hn,hi=>by
  have hn:8*(30-d).toNat+5≤n+1:=hn
  have e1: ∀i,i<ts.length→iI nm ts i 1 (pP nm ts n .add d i):=fun i hi=>pO ok w n .add d i h0 h1 (by show 8*(30-d).toNat+4≤n;omega) hi
  show iI nm ts i 1 ((pP nm ts n .add d i).then fun a i=>match cQ ts "symbol" nY i with
   |none=>dh a i
   |some o=>(pP nm ts n .add d (i+1)).then fun b i=>dh (.bin o a b) i)
  refine mU (e1 i hi) fun a j a1 a2 a3 a4=> ?_
  cases ho:cQ ts "symbol" nY j with
  |none=>exact rC a1 a2 a3 a4
  |some o=>
   have hl:=rF ok (yW ho (by decide+kernel))
   refine mU (e1 (j+1) hl) fun b j2 b1 b2 b3 b4=>rC (by omega) b2 ?_ ⟨a4,b4⟩
   show a.sz+b.sz+1≤j2-i
   omega
 |n+1,.add,d,i,h0,h1,hn,hi=>by
  have hn:8*(30-d).toNat+4≤n+1:=hn
  have e1: ∀i,i<ts.length→iI nm ts i 1 (pP nm ts n .prod d i):=fun i hi=>pO ok w n .prod d i h0 h1 (by show 8*(30-d).toNat+3≤n;omega) hi
  show iI nm ts i 1 ((pP nm ts n .prod d i).then fun a i=>fG (cQ ts "symbol" [.add,.sub]) (pP nm ts n .prod d) ts.length a i)
  exact mU (e1 i hi) fun a j a1 a2 a3 a4=>C_ ok (fun i o h=>yW h (by decide+kernel)) e1 _ a j i a2 (by omega) (by omega) a3 a4
 |n+1,.prod,d,i,h0,h1,hn,hi=>by
  have hn:8*(30-d).toNat+3≤n+1:=hn
  have e1: ∀i,i<ts.length→iI nm ts i 1 (pP nm ts n .fac d i):=fun i hi=>pO ok w n .fac d i h0 h1 (by show 8*(30-d).toNat+2≤n;omega) hi
  show iI nm ts i 1 ((pP nm ts n .fac d i).then fun a i=>fG (jD ts) (pP nm ts n .fac d) ts.length a i)
  exact mU (e1 i hi) fun a j a1 a2 a3 a4=>C_ ok (fun i o h=>adV h) e1 _ a j i a2 (by omega) (by omega) a3 a4
 |n+1,.fac,d,i,h0,h1,hn,hi=>by
  have hn:8*(30-d).toNat+2≤n+1:=hn
  have e1: ∀i,i<ts.length→iI nm ts i 1 (pP nm ts n .expr d i):=fun i hi=>pO ok w n .expr d i h0 h1 (by show 8*(30-d).toNat+1≤n;omega) hi
  show iI nm ts i 1 (if (tk ts i).kind= "number" then dh (.int (NumText.digitsVal (sg (tk ts i).text):Nat)) (i+1)
   else if (tk ts i).kind= "name" then(if (tk ts i).text∈nm then dh (.name (tk ts i).text) (i+1)else some (.error (tk ts i).col))
   else if dU ts "symbol" "-" i then jc ts d (i+1) ((pP nm ts n .fac (d+1) (i+1)).then fun a i=>dh (.un .neg a) i)
   else match cQ ts "word" [.min,.max] i with
    |none=>cX ts "symbol" "(" i fun i=>(pP nm ts n .expr d i).then fun a i=>cX ts "symbol" ")" i fun i=>dh a i
    |some o=>cX ts "symbol" "(" (i+1) fun i=>(pP nm ts n .expr d i).then fun a i=>cX ts "symbol" "," i fun i=>(pP nm ts n .expr d i).then fun b i=>cX ts "symbol" ")" i fun i=>dh (.bin o a b) i)
  by_cases hk:(tk ts i).kind= "number"
  ·rw [if_pos hk]
   have hl:=rF ok (i:=i) (by rw [hk];decide+kernel)
   obtain⟨d1,d2⟩:=(w _ (List.mem_of_getElem? (nO hi))).num hk
   have hb:=adt d1
   have hb2:10^(sg (tk ts i).text).length≤10^6:=Nat.pow_le_pow_right (by decide) d2
   exact rC (by omega) hl (by show 1≤_;omega) ⟨by omega,by omega⟩
  ·rw [if_neg hk]
   by_cases hm:(tk ts i).kind= "name"
   ·rw [if_pos hm]
    have hl:=rF ok (i:=i) (by rw [hm];decide+kernel)
    by_cases hin:(tk ts i).text∈nm
    ·rw [if_pos hin]
     exact rC (by omega) hl (by show 1≤_;omega) hin
    ·rw [if_neg hin]
     exact Fj
   ·rw [if_neg hm]
    by_cases hg:dU ts "symbol" "-" i
    ·rw [if_pos hg]
     have hl:=rF ok (i:=i) (by rw [hg.1];decide+kernel)
     refine Jl fun hd=>mU (pO ok w n .fac (d+1) (i+1) (by omega) hd (by show 8*(30-(d+1)).toNat+2≤n;omega) hl) fun a j a1 a2 a3 a4=>rC (by omega) a2 ?_ a4
     show a.sz+1≤j-i
     omega
    ·rw [if_neg hg]
     cases ho:cQ ts "word" [.min,.max] i with
     |none=>
      refine vN ok (by decide+kernel) fun h1=>mU (e1 (i+1) h1) fun a j a1 a2 a3 a4=>vN ok (by decide+kernel) fun h2=>rC (by omega) h2 (by omega) a4
     |some o=>
      refine vN ok (by decide+kernel) fun h1=>mU (e1 (i+1+1) h1) fun a j a1 a2 a3 a4=>vN ok (by decide+kernel) fun h2=> ?_
      refine mU (e1 (j+1) h2) fun b j2 b1 b2 b3 b4=>vN ok (by decide+kernel) fun h3=>rC (by omega) h3 ?_ ⟨a4,b4⟩
      show a.sz+b.sz+1≤j2+1-i
      omega
theorem Ma (l:List Nat):sg (tx l)=l:=rfl
theorem afV {t:Str} (h:t∈eO):kOf t= "word" :=if_pos h
theorem T_ {s:List Nat} {i:Nat} {t:Tk} (hi:i<s.length) (h:iV s i= .ok t):uR t∧sg t.text≠ []:=by
 unfold iV at h
 dsimp only at h
 by_cases h1:eX (s.getD i 0)=true
 ·rw [if_pos h1]at h
  have hw: ∃r,(s.drop i).take (rl gK (s.drop i))=s.getD i 0::r:=by
   rw [vA hi,pY (by show(eX _||cO _)=true;rw [h1];rfl),List.take_succ_cons]
   exact⟨_,rfl⟩
  obtain⟨r,hr⟩:=hw
  by_cases h2:tx ((s.drop i).take (rl gK (s.drop i)))∉eO∧8<((s.drop i).take (rl gK (s.drop i))).length
  ·rw [if_pos h2]at h
   cases h
  ·rw [if_neg h2]at h
   cases h
   refine⟨⟨.inr ?_,fun k=> ?_⟩,by show(s.drop i).take _≠ [];rw [hr];simp⟩
   ·dsimp only
    by_cases hk:tx ((s.drop i).take (rl gK (s.drop i)))∈eO
    ·rw [if_pos hk,afV hk]
    ·rw [if_neg hk]
     unfold kOf
     rw [if_neg hk,Ma,hr]
     dsimp only
     rw [if_pos h1]
   ·dsimp only at k
    split at k
    ·exact absurd k (by decide+kernel)
    ·exact absurd k (by decide+kernel)
 ·rw [if_neg h1]at h
  by_cases h3:cO (s.getD i 0)=true
  ·rw [if_pos h3]at h
   have hw: ∃r,(s.drop i).take (rl cO (s.drop i))=s.getD i 0::r:=by
    rw [vA hi,pY h3,List.take_succ_cons]
    exact⟨_,rfl⟩
   obtain⟨r,hr⟩:=hw
   split at h
   ·cases h
   ·rename_i h4
    cases h
    have hnk:tx ((s.drop i).take (rl cO (s.drop i)))∉eO:=fun z=>by
     have all: ∀t∈eO,∀c r,sg t=c::r→cO c=false:=by
      intro t ht
      simp only [List.mem_cons,List.not_mem_nil,or_false]at ht
      rcases ht with rfl|rfl|rfl|rfl|rfl|rfl|rfl|rfl|rfl|rfl|rfl|rfl|rfl|rfl|rfl|rfl<;>(intro c r e;cases e;rfl)
     have:=all _ z _ r (by rw [Ma,hr])
     rw [h3]at this
     cases this
    refine⟨⟨.inr ?_,fun _=>⟨Kg cO _,?_⟩⟩,by show(s.drop i).take _≠ [];rw [hr];simp⟩
    ·show("number" :Str)=kOf _
     unfold kOf
     rw [if_neg hnk,Ma,hr]
     dsimp only
     rw [if_neg h1,if_pos h3]
    ·show((s.drop i).take (rl cO (s.drop i))).length≤6
     by_cases q:6<((s.drop i).take (rl cO (s.drop i))).length
     ·exact absurd (.inl q) h4
     ·omega
  ·rw [if_neg h3]at h
   split at h
   ·rename_i y hy
    cases h
    have hin:=List.mem_of_find?_eq_some hy
    have all: ∀y∈jB,kOf y= "symbol" ∧sg y≠ []:=by decide+kernel
    exact⟨⟨.inr (all y hin).1.symm,fun k=>absurd k (show("symbol" :Str)≠ "number" by decide+kernel)⟩,(all y hin).2⟩
   ·cases h
theorem Ye {s:List Nat}: ∀(n i:Nat) (acc ts:List Tk),(∀t∈acc,uR t)→fH s n i acc=some (.ok ts)→ ∀t∈ts,uR t:=by
 have fin: ∀(acc:List Tk),(∀t∈acc,uR t)→ ∀t∈acc++ [(⟨"end","",(s.length:Int)+1⟩:Tk)],uR t:=fun acc h t ht=>by
  rcases List.mem_append.mp ht with ht|ht
  ·exact h t ht
  ·rw [List.mem_singleton.mp ht]
   exact⟨.inl rfl,fun k=>absurd k (show("end" :Str)≠ "number" by decide+kernel)⟩
 intro n
 induction n with
 |zero=>
  intro i acc ts h e
  by_cases hi:i<s.length
  ·unfold fH at e
   rw [if_pos hi]at e
   cases e
  ·rw [rE hi]at e
   cases e
   exact fin acc h
 |succ n ih=>
  intro i acc ts h e
  by_cases hi:i<s.length
  ·unfold fH at e
   rw [if_pos hi]at e
   split at e
   ·exact ih _ acc ts h e
   ·split at e
    ·cases e
    ·rename_i t ht
     split at e
     ·cases e
     ·refine ih _ (acc++ [t]) ts (fun x hx=> ?_) e
      rcases List.mem_append.mp hx with hx|hx
      ·exact h x hx
      ·rw [List.mem_singleton.mp hx]
       exact(T_ hi ht).1
  ·rw [rE hi]at e
   cases e
   exact fin acc h
theorem Jb {s:List Nat}: ∀(n i:Nat) (acc:List Tk),s.length-i≤n→ ∃r,fH s n i acc=some r
 |0,i,acc,h=>⟨_,rE (by omega)⟩
 |n+1,i,acc,h=>by
  by_cases hi:i<s.length
  ·unfold fH
   rw [if_pos hi]
   split
   ·exact Jb n _ acc (by omega)
   ·split
    ·exact⟨_,rfl⟩
    ·rename_i t ht
     split
     ·exact⟨_,rfl⟩
     ·have:=List.length_pos_iff.mpr (T_ hi ht).2
      exact Jb n _ _ (by omega)
  ·exact⟨_,rE hi⟩
def g8 (t:Tk):PyData:= .tuple [.str t.kind,.str t.text,.int t.col]
def prD:Option Int→PyData
 |none=> .none
 |some c=> .int c
def Zm (ts:List Tk) (nm:List Str) (i:Nat) (d:Int) (pr:Option Int):List DV:= [.d (.list (ts.map g8)),.d (.int (i:Nat)),.d (.int d),.d (prD pr),.d (.list (nm.map PyData.str))]
def jH (M:Mem) (p:Addr) (ts:List Tk) (nm:List Str) (i:Nat) (d:Int) (pr:Option Int):Prop:=M p=some (.lst (Zm ts nm i d pr))
structure lM (ts:List Tk):Prop where
 ok:nU ts
 w: ∀t∈ts,uR t
theorem lM.at {ts:List Tk} (h:lM ts) (i:Nat):uR (tk ts i):=by
 by_cases q:i<ts.length
 ·exact h.w _ (List.mem_of_getElem? (nO q))
 ·have e:=Yv (ts:=ts) (i:=i) (by omega)
  exact⟨.inl e,fun z=>absurd (e.symm.trans z) (by decide+kernel)⟩
def d9 (M:Mem) (p:Addr) (ts:List Tk) (nm:List Str) (d:Int) (o:Except Int Nat):Prop:= ∃(i:Nat) (d':Int) (pr:Option Int),jH M p ts nm i d' pr∧i<ts.length∧((pr=none∧o= .ok i∧d'=d)∨ ∃c,pr=some c∧o= .error c)
def rR (ts:List Tk) (texts:List Str) (i:Nat):Prop:=(tk ts i).kind∈(["word","symbol"]:List Str)∧(tk ts i).text∈texts
instance (ts:List Tk) (texts:List Str) (i:Nat):Decidable (rR ts texts i):=by unfold rR;infer_instance
inductive Dm (ts:List Tk) (texts:List Str):Except Int Nat→Str→Except Int Nat→Prop
 |err {c:Int}:Dm ts texts (.error c) "" (.error c)
 |yes {i:Nat}:rR ts texts i→Dm ts texts (.ok i) (tk ts i).text (.ok (i+1))
 |no {i:Nat}: ¬rR ts texts i→Dm ts texts (.ok i) "" (.ok i)
def JF (ts:List Tk):Except Int Nat→Except Int Nat
 | .error c=> .error c
 | .ok i=> .error (tk ts i).col
def zA (ts:List Tk) (kind x:Str):Except Int Nat→Except Int Nat
 | .error c=> .error c
 | .ok i=>if dU ts kind x i then .ok (i+1)else .error (tk ts i).col
def xR (ts:List Tk) (d:Int):Except Int Nat→Except Int Nat
 | .error c=> .error c
 | .ok i=>if 30<d+1 then .error (tk ts i).col else .ok i
def nxt (o:Except Int Nat) (f:Nat→PRs):PRs:=match o with
 | .error c=>some (.error c)
 | .ok i=>f i
def jr:Except Int (Ex×Nat)→Except Int Nat
 | .error c=> .error c
 | .ok (_,j)=> .ok j
theorem Ck {ts:List Tk} {kind x:Str} {o:Except Int Nat} {f:Nat→PRs} {r:Except Int (Ex×Nat)} (h:nxt o (fun i=>cX ts kind x i f)=some r):nxt (zA ts kind x o) f=some r:=by
 cases o with
 |error c=>exact h
 |ok i=>
  have h:cX ts kind x i f=some r:=h
  unfold cX at h
  show nxt (if dU ts kind x i then .ok (i+1)else .error (tk ts i).col) f=some r
  by_cases q:dU ts kind x i
  ·rw [if_pos q]at h ⊢
   exact h
  ·rw [if_neg q]at h ⊢
   exact h
theorem T6 {ts:List Tk} {d:Int} {o:Except Int Nat} {f:Nat→PRs} {r:Except Int (Ex×Nat)} (h:nxt o (fun i=>jc ts d i (f i))=some r):nxt (xR ts d o) f=some r:=by
 cases o with
 |error c=>exact h
 |ok i=>
  have h:jc ts d i (f i)=some r:=h
  unfold jc at h
  show nxt (if 30<d+1 then .error (tk ts i).col else .ok i) f=some r
  by_cases q:30<d+1
  ·rw [if_pos q]at h ⊢
   exact h
  ·rw [if_neg q]at h ⊢
   exact h
theorem G8 {ts:List Tk} {kind x:Str} {o:Except Int Nat} {j:Nat} (h:zA ts kind x o= .ok j): ∃i,o= .ok i:=by
 cases o with
 |error c=>cases h
 |ok i=>exact⟨i,rfl⟩
theorem Ub {ts:List Tk} {d:Int} {o:Except Int Nat} {j:Nat} (h:xR ts d o= .ok j):o= .ok j∧d+1≤30:=by
 cases o with
 |error c=>cases h
 |ok i=>
  have h:(if 30<d+1 then .error (tk ts i).col else .ok i:Except Int Nat)= .ok j:=h
  by_cases q:30<d+1
  ·rw [if_pos q]at h
   cases h
  ·rw [if_neg q]at h
   exact⟨h,by omega⟩
theorem uO {o:Except Int Nat} {f:Nat→PRs} {g:Ex→Nat→PRs} {r:Except Int (Ex×Nat)} (h:nxt o (fun i=>(f i).then g)=some r): ∃r1 e,nxt o f=some r1∧(∀e' j,r1= .ok (e',j)→e'=e∧ ∃i,o= .ok i)∧nxt (jr r1) (g e)=some r:=by
 cases o with
 |error c=>exact⟨.error c,.int 0,rfl,fun e' j z=>(by cases z),h⟩
 |ok i=>
  have h:(f i).then g=some r:=h
  obtain⟨r1,h1,h2⟩:=Bm h
  rcases h2 with⟨c,rfl,rfl⟩|⟨e,j,rfl,h3⟩
  ·exact⟨.error c,.int 0,h1,fun e' j z=>(by cases z),rfl⟩
  ·exact⟨.ok (e,j),e,h1,fun e' j' z=>by cases z;exact⟨rfl,i,rfl⟩,h3⟩
theorem Ku {o:Except Int Nat} {e e':Ex} {j:Nat} (h:nxt o (fun j=>dh e j)=some (.ok (e',j))):e'=e∧o= .ok j:=by
 cases o with
 |error c=>cases h
 |ok i=>
  cases h
  exact⟨rfl,rfl⟩
theorem K7 {o:Except Int Nat} {e:Ex} {r:Except Int (Ex×Nat)} (h:nxt o (fun j=>dh e j)=some r):jr r=o:=by
 cases o with
 |error c=>cases h;rfl
 |ok i=>cases h;rfl
theorem vo {r:Except Int (Ex×Nat)} {j:Nat} (h:jr r= .ok j): ∃e,r= .ok (e,j):=by
 match r,h with
 | .ok (e,j'),h=>
  cases h
  exact⟨e,rfl⟩
def yj (nm:List Str) (ts:List Tk) (p:Addr) (M:Mem) (d:Int) (r:Except Int (Ex×Nat)) (R:KD):Prop:= ∀(x:PyData) M',(∀e j,r= .ok (e,j)→x=e.d)→d9 M' p ts nm d (jr r)→MK [p] M M'→R (.d x) M'
def fQ:Nat→List Op
 |1=> [.or]
 |2=> [.and]
 |4=>nY
 |5=> [.add,.sub]
 |6=> [.mul,.mod]
 |_=> []
def lvl:Nat→PK
 |1=> .disj
 |2=> .conj
 |3=> .neg
 |4=> .cmp
 |5=> .add
 |6=> .prod
 |_=> .fac
def fW (ts:List Tk) (l:List Op) (i:Nat):Option Op:=if (tk ts i).kind∈(["word","symbol"]:List Str)then l.find? fun o=>decide (o.s=(tk ts i).text)else none
theorem YZ {l:List Op} {x:Str}:(l.find? fun o=>decide (o.s=x))=none↔x∉l.map Op.s:=by
 rw [List.find?_eq_none]
 constructor
 ·intro h q
  obtain⟨o,ho,e⟩:=List.mem_map.mp q
  exact h o ho (decide_eq_true e)
 ·intro h o ho e
  exact h (List.mem_map.mpr ⟨o,ho,of_decide_eq_true e⟩)
theorem X8 {l:List Op} {x:Str} {o:Op} (e:(l.find? fun o=>decide (o.s=x))=some o):o.s=x:=by
 have h:=List.find?_some e
 exact of_decide_eq_true h
theorem Yz {ts:List Tk} {l:List Op} {i:Nat} (h:rR ts (l.map Op.s) i): ∃o,fW ts l i=some o∧o.s=(tk ts i).text∧o∈l:=by
 unfold fW
 rw [if_pos h.1]
 cases e:l.find? fun o=>decide (o.s=(tk ts i).text)with
 |none=>exact absurd h.2 (YZ.mp e)
 |some o=>exact⟨o,rfl,X8 e,List.mem_of_find?_eq_some e⟩
theorem Ik {ts:List Tk} {l:List Op} {i:Nat} (h: ¬rR ts (l.map Op.s) i):fW ts l i=none:=by
 unfold fW
 by_cases q:(tk ts i).kind∈(["word","symbol"]:List Str)
 ·rw [if_pos q]
  exact YZ.mpr fun z=>h ⟨q,z⟩
 ·rw [if_neg q]
theorem vR {ts:List Tk} (w:lM ts) {kind:Str} {l:List Op} (hk:kind∈(["word","symbol"]:List Str)) (hl: ∀o∈l,kOf o.s=kind):cQ ts kind l=fW ts l:=by
 funext i
 have hw:=(w.at i).kind
 have hne:kind≠ "end" :=fun z=>by
  rw [z]at hk
  exact absurd hk (by decide+kernel)
 unfold cQ fW
 cases e:l.find? fun o=>decide (o.s=(tk ts i).text)with
 |none=>simp
 |some o=>
  have e1:=X8 e
  have e2:=hl o (List.mem_of_find?_eq_some e)
  rw [e1]at e2
  rcases hw with h|h
  ·rw [if_neg (fun z=>hne (z.symm.trans h)),if_neg (by rw [h];decide+kernel)]
  ·rw [if_pos (h.trans e2),if_pos (by rw [h,e2];exact hk)]
theorem uX {ts:List Tk} (w:lM ts) {kind x:Str} {i:Nat} (hk:kind∈(["word","symbol"]:List Str)) (hx:kOf x=kind):rR ts [x] i↔dU ts kind x i:=by
 have hw:=(w.at i).kind
 constructor
 ·rintro⟨h1,h2⟩
  have h2:=List.mem_singleton.mp h2
  refine⟨?_,h2⟩
  rcases hw with h|h
  ·rw [h]at h1
   exact absurd h1 (by decide+kernel)
  ·rw [h,h2,hx]
 ·rintro⟨h1,h2⟩
  exact⟨by rw [h1];exact hk,List.mem_singleton.mpr h2⟩
theorem agm {ts:List Tk} (w:lM ts):jD ts=fW ts [.mul,.mod]:=by
 funext i
 unfold jD
 rw [vR w (kind:= "symbol") (by decide+kernel) (by decide+kernel),vR w (kind:= "word") (by decide+kernel) (by decide+kernel)]
 unfold fW
 by_cases q:(tk ts i).kind∈(["word","symbol"]:List Str)
 ·rw [if_pos q,if_pos q,if_pos q]
  generalize (tk ts i).text=x
  show(match (match decide (Op.mul.s=x)with|true=>some Op.mul|false=>none)with|some o=>some o|none=>_)=(match decide (Op.mul.s=x)with|true=>some Op.mul|false=>_)
  cases decide (Op.mul.s=x)with
  |true=>rfl
  |false=>rfl
 ·rw [if_neg q,if_neg q,if_neg q]
def lZ (one:Bool) (op:Nat→Option Op) (sub:Nat→PRs):Nat→Option Op→Ex→Nat→PRs
 |0,_,_,_=>none
 |_+1,none,a,j=>dh a j
 |w+1,some o,a,j=>(sub (j+1)).then fun b k=>lZ one op sub w (if one=true then none else op k) (.bin o a b) k
theorem Zk {op:Nat→Option Op} {sub:Nat→PRs}: ∀(w:Nat) (a:Ex) (j:Nat),fG op sub w a j=lZ false op sub w (op j) a j
 |0,a,j=>rfl
 |w+1,a,j=>by
  unfold fG
  cases e:op j with
  |none=>rfl
  |some o=>
   show(sub (j+1)).then _=(sub (j+1)).then _
   refine congrArg _ ?_
   funext b k
   exact Zk w (.bin o a b) k
def rH (r:Nat):Bool:=decide (r=4)
theorem afC {nm:List Str} {ts:List Tk} (w:lM ts) {m:Nat} {d:Int} {r:Nat} (h1:1≤r) (h6:r≤6) {i:Nat} {z:Except Int (Ex×Nat)} (h:pP nm ts (m+1) (lvl r) d i=some z) (hn:r=3→ ¬dU ts "word" "not" i): ∃W,(pP nm ts m (lvl (r+1)) d i).then (fun a j=>lZ (rH r) (fW ts (fQ r)) (pP nm ts m (lvl (r+1)) d) (W+1) (fW ts (fQ r) j) a j)=some z:=by
 have cut: ∀{sub:Nat→PRs} {op:Nat→Option Op} {i:Nat},(sub i).then (fun a j=>fG op sub ts.length a j)=some z→ ∃W,(sub i).then (fun a j=>lZ false op sub (W+1) (op j) a j)=some z:=by
  intro sub op i h
  have e:(fun a j=>fG op sub ts.length a j)=fun a j=>lZ false op sub ts.length (op j) a j:=by
   funext a j
   exact Zk _ a j
  rw [e]at h
  cases hW:ts.length with
  |succ W=>
   rw [hW]at h
   exact⟨W,h⟩
  |zero=>
   rw [hW]at h
   obtain⟨r1,e1,h2⟩:=Bm h
   rcases h2 with⟨c,rfl,rfl⟩|⟨e,j,rfl,h3⟩
   ·exact⟨0,by rw [e1];rfl⟩
   ·cases h3
 have hr:r=1∨r=2∨r=3∨r=4∨r=5∨r=6:=by omega
 rcases hr with rfl|rfl|rfl|rfl|rfl|rfl
 ·have h:(pP nm ts m .conj d i).then (fun a i=>fG (cQ ts "word" [.or]) (pP nm ts m .conj d) ts.length a i)=some z:=h
  rw [vR w (by decide+kernel) (by decide+kernel)]at h
  exact cut h
 ·have h:(pP nm ts m .neg d i).then (fun a i=>fG (cQ ts "word" [.and]) (pP nm ts m .neg d) ts.length a i)=some z:=h
  rw [vR w (by decide+kernel) (by decide+kernel)]at h
  exact cut h
 ·have h:(if dU ts "word" "not" i then jc ts d (i+1) ((pP nm ts m .neg (d+1) (i+1)).then fun a i=>dh (.un .not a) i)else pP nm ts m .cmp d i)=some z:=h
  rw [if_neg (hn rfl)]at h
  refine⟨0,?_⟩
  have e0: ∀j,fW ts (fQ 3) j=none:=fun j=>Ik fun z=>(by cases z.2)
  show(pP nm ts m .cmp d i).then _=_
  rw [h]
  match z,h with
  | .error c,h=>rfl
  | .ok (e,j),h=>
   show lZ _ _ _ 1 (fW ts (fQ 3) j) e j=_
   rw [e0 j]
   rfl
 ·have h:(pP nm ts m .add d i).then (fun a i=>match cQ ts "symbol" nY i with
   |none=>dh a i
   |some o=>(pP nm ts m .add d (i+1)).then fun b i=>dh (.bin o a b) i)=some z:=h
  rw [vR w (by decide+kernel) (by decide+kernel)]at h
  refine⟨1,?_⟩
  refine Eq.trans ?_ h
  show(pP nm ts m .add d i).then _=(pP nm ts m .add d i).then _
  refine congrArg _ ?_
  funext a j
  show lZ (rH 4) (fW ts nY) _ 2 (fW ts nY j) a j=_
  cases fW ts nY j with
  |none=>rfl
  |some o=>rfl
 ·have h:(pP nm ts m .prod d i).then (fun a i=>fG (cQ ts "symbol" [.add,.sub]) (pP nm ts m .prod d) ts.length a i)=some z:=h
  rw [vR w (by decide+kernel) (by decide+kernel)]at h
  exact cut h
 ·have h:(pP nm ts m .fac d i).then (fun a i=>fG (jD ts) (pP nm ts m .fac d) ts.length a i)=some z:=h
  rw [agm w]at h
  exact cut h
theorem BK {te:TD} {D:fD} {sl:Slots} {M:Mem} (h:te sl M fun _ M1=>D.nx sl M1):gW te D sl M:=h
theorem Hf {te:TD} {g:jh} {D:fD} {sl:Slots} {M:Mem} (h:te sl M fun x M1=>g x sl M1 D.nx):zU te g D sl M:=h
theorem Hu {te to ti:TD} {D:fD} {sl:Slots} {M:Mem} {x:DV} (h1: ∀K:KD,K x M→te sl M K) (h2:jt (dC x) to ti D sl M):jt te to ti D sl M:=h1 _ h2
section
variable {sl:Slots} {M:Mem} {p:Addr} {ts:List Tk} {nm:List Str} {i:Nat} {d:Int} {pr:Option Int}
theorem uz {R:KD} (e:sl[0]? =some (some (.raw (.ref p)))) (h:jH M p ts nm i d pr) {k:Int} {v:DV} (hk:atI (Zm ts nm i d pr) k=some v) (q:R v M):aA bf (ao 0) (dC (.d (.int k))) sl M R:=aO (aG e (aN (eV h (bB hk q))))
theorem Vz {R:KD} (hi:i<ts.length) (q:R (.d (g8 (tk ts i))) M):bf (.d (.list (ts.map g8))) (.d (.int (i:Nat))) M R:=bB (by
 rw [HF,Gi hi]
 have:=nO hi
 rw [List.getElem?_eq_getElem hi]at this
 rw [Option.some.inj this]
 rfl) q
theorem JL {R:KD} (e:sl[0]? =some (some (.raw (.ref p)))) (h:jH M p ts nm i d pr) (hi:i<ts.length) (q:R (.d (g8 (tk ts i))) M):aA bf (aA bf (ao 0) (dC (.d (.int 0)))) (aA bf (ao 0) (dC (.d (.int 1)))) sl M R:=
 aO (uz e h (v:= .d (.list (ts.map g8))) rfl (uz e h (v:= .d (.int (i:Nat))) rfl (Vz hi q)))
theorem Jc {D:fD} (e:sl[0]? =some (some (.raw (.ref p)))) (h:jH M p ts nm i d pr) (q: ∀M',jH M' p ts nm (i+1) d pr→MK [p] M M'→D.nx sl M'):jt (aA (g2 aX) (aA bf (ao 0) (dC (.d (.int 1)))) (dC (.d (.int 1)))) (ao 0) (dC (.d (.int 1))) D sl M:=by
 refine Hu (x:= .d (.int ((i:Nat)+1:Int))) (fun K hK=>aO (uz e h (v:= .d (.int (i:Nat))) rfl (aN hK))) ?_
 refine aN (aG e (aN ?_))
 refine eV h (bB (x:=1) rfl ?_)
 exact q _ (by unfold jH;rw [cY];rfl) lO
theorem aey {D:fD} (e:sl[0]? =some (some (.raw (.ref p)))) (h:jH M p ts nm i d pr) (q: ∀M',jH M' p ts nm i (d+1) pr→MK [p] M M'→D.nx sl M'):jt (aA (g2 aX) (aA bf (ao 0) (dC (.d (.int 2)))) (dC (.d (.int 1)))) (ao 0) (dC (.d (.int 2))) D sl M:=by
 refine Hu (x:= .d (.int (d+1))) (fun K hK=>aO (uz e h (v:= .d (.int d)) rfl (aN hK))) ?_
 refine aN (aG e (aN ?_))
 refine eV h (bB (x:=2) rfl ?_)
 exact q _ (by unfold jH;rw [cY];rfl) lO
theorem aeV {D:fD} (e:sl[0]? =some (some (.raw (.ref p)))) (h:jH M p ts nm i d pr) (q: ∀M',jH M' p ts nm i (d-1) pr→MK [p] M M'→D.nx sl M'):jt (aA (g2 (DL.intOp (· - ·))) (aA bf (ao 0) (dC (.d (.int 2)))) (dC (.d (.int 1)))) (ao 0) (dC (.d (.int 2))) D sl M:=by
 refine Hu (x:= .d (.int (d-1))) (fun K hK=>aO (uz e h (v:= .d (.int d)) rfl (aN hK))) ?_
 refine aN (aG e (aN ?_))
 refine eV h (bB (x:=2) rfl ?_)
 exact q _ (by unfold jH;rw [cY];rfl) lO
theorem aev {D:fD} (e:sl[0]? =some (some (.raw (.ref p)))) (h:jH M p ts nm i d pr) (hi:i<ts.length) (q: ∀M',jH M' p ts nm i d (some (tk ts i).col)→MK [p] M M'→D.nx sl M'):jt (aA bf (aA bf (aA bf (ao 0) (dC (.d (.int 0)))) (aA bf (ao 0) (dC (.d (.int 1))))) (dC (.d (.int 2)))) (ao 0) (dC (.d (.int 3))) D sl M:=by
 refine Hu (x:= .d (.int (tk ts i).col)) (fun K hK=>aO (JL e h hi (aN (bB rfl hK)))) ?_
 refine aN (aG e (aN ?_))
 refine eV h (bB (x:=3) rfl ?_)
 exact q _ (by unfold jH;rw [cY];rfl) lO
theorem adI {RB:KB} (e:sl[0]? =some (some (.raw (.ref p)))) (h:jH M p ts nm i d pr) (q:RB (decide (pr=none)) M):dB (aA mQ (aA bf (ao 0) (dC (.d (.int 3)))) (dC (.d .none))) sl M RB:=by
 refine bU (aO (uz e h (v:= .d (prD pr)) rfl (aN ?_)))
 cases pr with
 |none=>exact q
 |some c=>exact q
theorem Vn {RB:KB} (e:sl[0]? =some (some (.raw (.ref p)))) (h:jH M p ts nm i d pr) (q:RB (!decide (pr=none)) M):dB (aA kZ (aA bf (ao 0) (dC (.d (.int 3)))) (dC (.d .none))) sl M RB:=by
 refine bU (aO (uz e h (v:= .d (prD pr)) rfl (aN ?_)))
 cases pr with
 |none=>exact q
 |some c=>exact q
end
section
variable {sl:Slots} {M:Mem} {p:Addr} {ts:List Tk} {nm:List Str} {d:Int} {o:Except Int Nat}
theorem V1 {D:fD} (e:sl[0]? =some (some (.raw (.ref p)))) (h:d9 M p ts nm d o) (q: ∀M',d9 M' p ts nm (d+1) o→MK [p] M M'→D.nx sl M'):jt (aA (g2 aX) (aA bf (ao 0) (dC (.d (.int 2)))) (dC (.d (.int 1)))) (ao 0) (dC (.d (.int 2))) D sl M:=by
 obtain⟨i,d',pr,hA,hi,hc⟩:=h
 refine aey e hA fun M' h' k=>q M' ⟨i,d'+1,pr,h',hi,?_⟩ k
 rcases hc with⟨h1,h2,h3⟩|hc
 ·exact .inl ⟨h1,h2,by rw [h3]⟩
 ·exact .inr hc
theorem Vt {D:fD} (e:sl[0]? =some (some (.raw (.ref p)))) (h:d9 M p ts nm (d+1) o) (q: ∀M',d9 M' p ts nm d o→MK [p] M M'→D.nx sl M'):jt (aA (g2 (DL.intOp (· - ·))) (aA bf (ao 0) (dC (.d (.int 2)))) (dC (.d (.int 1)))) (ao 0) (dC (.d (.int 2))) D sl M:=by
 obtain⟨i,d',pr,hA,hi,hc⟩:=h
 refine aeV e hA fun M' h' k=>q M' ⟨i,d'-1,pr,h',hi,?_⟩ k
 rcases hc with⟨h1,h2,h3⟩|hc
 ·exact .inl ⟨h1,h2,by omega⟩
 ·exact .inr hc
theorem af0 {c:Int} {d':Int} (h:d9 M p ts nm d (.error c)):d9 M p ts nm d' (.error c):=by
 obtain⟨i,e,pr,hA,hi,hc⟩:=h
 refine⟨i,e,pr,hA,hi,?_⟩
 rcases hc with⟨_,h2,_⟩|hc
 ·cases h2
 ·exact .inr hc
def afR:Except Int Nat→Bool
 | .error _=>true
 | .ok _=>false
theorem Dh {RB:KB} (e:sl[0]? =some (some (.raw (.ref p)))) (h:d9 M p ts nm d o) (q:RB (afR o) M):dB (aA kZ (aA bf (ao 0) (dC (.d (.int 3)))) (dC (.d .none))) sl M RB:=by
 obtain⟨i,d',pr,hA,hi,hc⟩:=h
 refine Vn e hA ?_
 rcases hc with⟨rfl,rfl,_⟩|⟨c,rfl,rfl⟩
 ·exact q
 ·exact q
theorem adJ {RB:KB} (e:sl[0]? =some (some (.raw (.ref p)))) (h:d9 M p ts nm d o) (q: ∀k:Bool,(∀i,o= .ok i→k=decide (30<d))→RB k M):dB (aA (g2 (jX fun i j=>decide (j<i))) (aA bf (ao 0) (dC (.d (.int 2)))) (dC (.d (.int 30)))) sl M RB:=by
 obtain⟨i,d',pr,hA,hi,hc⟩:=h
 refine bU (aO (uz e hA (v:= .d (.int d')) rfl (aN ?_)))
 refine q (decide (30<d')) fun j hj=> ?_
 rcases hc with⟨_,_,rfl⟩|⟨c,_,rfl⟩
 ·rfl
 ·cases hj
end
abbrev qI:List Str:= ["..",":=","!=","<=",">="]
def g_ (s:List Nat) (i:Nat):Nat:=if (eX (s.getD i 0)||cO (s.getD i 0))=true then i+rl (if eX (s.getD i 0)=true then gK else cO) (s.drop i)else if tx ((s.drop i).take 2)∈qI then i+2 else i+1
def cR (s:List Nat) (i:Nat):Str:=tx ((s.drop i).take (g_ s i-i))
def kW (c:Nat) (t:Str):Option Str:=if t∈eO then some "word" else if eX c=true∧(sg t).length<9 then some "name" else if cO c=true∧(sg t).length<7∧(t= "0" ∨c≠48)then some "number" else if t∈jB then some "symbol" else none
theorem J9: ∀t∈eO,∀c r,sg t=c::r→eX c=true:=by
 intro t ht
 simp only [List.mem_cons,List.not_mem_nil,or_false]at ht
 rcases ht with rfl|rfl|rfl|rfl|rfl|rfl|rfl|rfl|rfl|rfl|rfl|rfl|rfl|rfl|rfl|rfl<;>(intro c r e;cases e;rfl)
theorem KR: ∀t∈jB,∀c r,sg t=c::r→eX c=false∧cO c=false∧c≠32:=by
 intro t ht
 simp only [List.mem_cons,List.not_mem_nil,or_false]at ht
 rcases ht with rfl|rfl|rfl|rfl|rfl|rfl|rfl|rfl|rfl|rfl|rfl|rfl|rfl|rfl<;>(intro c r e;cases e;exact⟨rfl,rfl,by decide⟩)
theorem ace: ∀t∈qI,t∈jB:=by decide+kernel
theorem Fd: ∀t∈qI,(sg t).length=2:=by decide+kernel
theorem ady: ∀t∈jB,t∈qI∨(sg t).length=1:=by decide+kernel
theorem ahN {c:Nat} (h:eX c=true):cO c=false:=by
 unfold eX at h
 rw [Bool.and_eq_true]at h
 have h1:=of_decide_eq_true h.1
 unfold cO
 rw [Bool.and_eq_false_iff]
 exact .inr (decide_eq_false (by omega))
theorem Ui (a:Str): ∀l:List Str,(l.find? fun y=>decide (y=a))=if a∈l then some a else none
 | []=>rfl
 |x::l=>by
  show(match decide (x=a)with|true=>some x|false=>l.find? fun y=>decide (y=a))=_
  by_cases h:x=a
  ·subst h
   rw [decide_eq_true (rfl:x=x),if_pos List.mem_cons_self]
  ·rw [decide_eq_false h]
   show(l.find? fun y=>decide (y=a))=_
   rw [Ui a l]
   by_cases q:a∈l
   ·rw [if_pos q,if_pos (List.mem_cons_of_mem _ q)]
   ·rw [if_neg q,if_neg (fun z=>(List.mem_cons.mp z).elim (fun e=>h e.symm) q)]
theorem agh {l:List Str} {f g:Str→Bool} (h: ∀y∈l,f y=g y):l.find? f=l.find? g:=by
 induction l with
 |nil=>rfl
 |cons x l ih=>
  have hx:=h x List.mem_cons_self
  have hl:=ih fun y hy=>h y (List.mem_cons_of_mem _ hy)
  cases e:g x with
  |true=>rw [List.find?_cons_of_pos (hx.trans e),List.find?_cons_of_pos e]
  |false=>rw [List.find?_cons_of_neg (by rw [hx,e];decide),List.find?_cons_of_neg (by rw [e];decide),hl]
theorem ago {l:List Nat} (h:tx (l.take 2)∈qI):qF l=some (tx (l.take 2)):=by
 have key: ∀(a b:Nat) (r:List Nat),[a,b]∈qI.map sg→qF (a::b::r)=some (tx [a,b]):=by
  intro a b r h
  have h: [a,b]∈([[46,46],[58,61],[33,61],[60,61],[62,61]]:List (List Nat)):=h
  simp only [List.mem_cons,List.not_mem_nil,or_false,List.cons.injEq,and_true]at h
  rcases h with⟨rfl,rfl⟩|⟨rfl,rfl⟩|⟨rfl,rfl⟩|⟨rfl,rfl⟩|⟨rfl,rfl⟩<;>rfl
 have h2:=Fd _ h
 have h2:(l.take 2).length=2:=h2
 match l,h,h2 with
 |a::b::r,h,_=>exact key a b r (List.mem_map.mpr ⟨_,h,rfl⟩)
 | [_],_,h2=>cases h2
 | [],_,h2=>cases h2
theorem af2 {c:Nat} {r:List Nat} (h:tx ((c::r).take 2)∉qI):qF (c::r)=if tx [c]∈jB then some (tx [c])else none:=by
 rw [←Ui]
 refine agh fun y hy=> ?_
 rcases ady y hy with h2|h1
 ·have n1: ¬(c::r).take (sg y).length=sg y:=fun z=>h (by
   rw [Fd y h2]at z
   have e:tx ((c::r).take 2)=y:=uW (by rw [z])
   rw [e]
   exact h2)
  have n2: ¬y=tx [c]:=fun z=>by
   have:=Fd y h2
   rw [z]at this
   cases this
  rw [decide_eq_false n1,decide_eq_false n2]
 ·rw [h1]
  show decide ([c]=sg y)=decide (y=tx [c])
  by_cases q:y=tx [c]
  ·rw [decide_eq_true q]
   exact decide_eq_true (by rw [q])
  ·rw [decide_eq_false q]
   exact decide_eq_false fun z=>q (uW z.symm)
theorem Zj {s:List Nat} {i:Nat} (hi:i<s.length):i<g_ s i∧g_ s i≤s.length∧(∃r,sg (cR s i)=s.getD i 0::r)∧(s.getD i 0=32→cR s i= " " ∧kW (s.getD i 0) (cR s i)=none∧g_ s i=i+1)∧
  (s.getD i 0≠32→cR s i≠ " " ∧iV s i=match kW (s.getD i 0) (cR s i)with
   |some k=> .ok ⟨k,cR s i,(i:Int)+1⟩
   |none=> .error ((i:Int)+1)):=by
 have ed:=vA hi
 have hdl:(s.drop i).length=s.length-i:=List.length_drop
 have Il: ∀{t:Str} {c:Nat} {r:List Nat},sg t=c::r→c≠32→t≠ " " :=fun {t c r} e h z=>by
  rw [z]at e
  cases e
  exact h rfl
 by_cases h1:eX (s.getD i 0)=true
 ·have eE:g_ s i=i+rl gK (s.drop i):=by
   unfold g_
   rw [if_pos (by rw [h1];rfl),if_pos h1]
  have rp:0<rl gK (s.drop i):=by
   rw [ed,pY (by show(eX _||cO _)=true;rw [h1];rfl)]
   omega
  have rle:=Jr gK (s.drop i)
  have eT:cR s i=tx ((s.drop i).take (rl gK (s.drop i))):=by
   unfold cR
   rw [eE,Nat.add_sub_cancel_left]
  have hr: ∃r,sg (cR s i)=s.getD i 0::r:=by
   rw [eT]
   refine⟨(s.drop (i+1)).take (rl gK (s.drop i)-1),?_⟩
   show(s.drop i).take (rl gK (s.drop i))=_
   obtain⟨m,hm⟩: ∃m,rl gK (s.drop i)=m+1:=⟨rl gK (s.drop i)-1,by omega⟩
   rw [hm]
   conv=>lhs;rw [ed]
   rfl
  have c32:s.getD i 0≠32:=fun z=>by rw [z]at h1;cases h1
  refine⟨by omega,by omega,hr,fun z=>absurd z c32,fun _=> ?_⟩
  obtain⟨r,hr⟩:=hr
  refine⟨Il hr c32,?_⟩
  have hT:iV s i=if cR s i∉eO∧8<(sg (cR s i)).length then .error ((i:Int)+1)else .ok ⟨if cR s i∈eO then "word" else "name",cR s i,(i:Int)+1⟩:=by
   rw [eT]
   unfold iV
   dsimp only
   rw [if_pos h1]
  rw [hT]
  by_cases hk:cR s i∈eO
  ·have e0:kW (s.getD i 0) (cR s i)=some ("word" :Str):=by
    unfold kW
    rw [if_pos hk]
   rw [e0,if_neg (fun z=>z.1 hk),if_pos hk]
  ·rw [if_neg hk]
   by_cases h9:(sg (cR s i)).length<9
   ·have e0:kW (s.getD i 0) (cR s i)=some ("name" :Str):=by
     unfold kW
     rw [if_neg hk,if_pos ⟨h1,h9⟩]
    rw [e0,if_neg (fun z=>by have:=z.2;omega)]
   ·have ns:cR s i∉jB:=fun z=>by
     have:=(KR _ z _ _ hr).1
     rw [h1]at this
     cases this
    have e0:kW (s.getD i 0) (cR s i)=none:=by
     unfold kW
     rw [if_neg hk,if_neg (fun z=>h9 z.2),if_neg (fun z=>by have:=z.1;rw [ahN h1]at this;cases this),if_neg ns]
    rw [e0,if_pos ⟨hk,by omega⟩]
 have h1:eX (s.getD i 0)=false:=Bool.eq_false_iff.mpr h1
 by_cases h2:cO (s.getD i 0)=true
 ·have eE:g_ s i=i+rl cO (s.drop i):=by
   unfold g_
   rw [if_pos (by rw [h2,h1];rfl),if_neg (by rw [h1];decide)]
  have rp:0<rl cO (s.drop i):=by
   rw [ed,pY h2]
   omega
  have rle:=Jr cO (s.drop i)
  have eT:cR s i=tx ((s.drop i).take (rl cO (s.drop i))):=by
   unfold cR
   rw [eE,Nat.add_sub_cancel_left]
  have hr: ∃r,sg (cR s i)=s.getD i 0::r:=by
   rw [eT]
   refine⟨(s.drop (i+1)).take (rl cO (s.drop i)-1),?_⟩
   show(s.drop i).take (rl cO (s.drop i))=_
   obtain⟨m,hm⟩: ∃m,rl cO (s.drop i)=m+1:=⟨rl cO (s.drop i)-1,by omega⟩
   rw [hm]
   conv=>lhs;rw [ed]
   rfl
  have c32:s.getD i 0≠32:=fun z=>by rw [z]at h2;cases h2
  refine⟨by omega,by omega,hr,fun z=>absurd z c32,fun _=> ?_⟩
  obtain⟨r,hr⟩:=hr
  refine⟨Il hr c32,?_⟩
  have hT:iV s i=if 6<(sg (cR s i)).length∨1<(sg (cR s i)).length∧s.getD i 0=48 then .error ((i:Int)+1)else .ok ⟨"number",cR s i,(i:Int)+1⟩:=by
   rw [eT]
   unfold iV
   dsimp only
   rw [h1,if_neg (by decide),if_pos h2]
  have hk:cR s i∉eO:=fun z=>by
   have:=J9 _ z _ _ hr
   rw [h1]at this
   cases this
  have ns:cR s i∉jB:=fun z=>by
   have:=(KR _ z _ _ hr).2.1
   rw [h2]at this
   cases this
  have e0:kW (s.getD i 0) (cR s i)=if cO (s.getD i 0)=true∧(sg (cR s i)).length<7∧(cR s i= "0" ∨s.getD i 0≠48)then some ("number" :Str)else none:=by
   unfold kW
   rw [if_neg hk,if_neg (fun z=>by have:=z.1;rw [h1]at this;cases this),if_neg ns]
  rw [hT,e0]
  by_cases hg:(sg (cR s i)).length<7∧(cR s i= "0" ∨s.getD i 0≠48)
  ·have no: ¬(6<(sg (cR s i)).length∨1<(sg (cR s i)).length∧s.getD i 0=48):=by
    rintro(z|z)
    ·omega
    ·rcases hg.2 with q|q
     ·rw [q]at z
      exact absurd z.1 (by decide+kernel)
     ·exact q z.2
   rw [if_neg no,if_pos (show cO (s.getD i 0)=true∧_ from⟨h2,hg⟩)]
  ·have e1:(if cO (s.getD i 0)=true∧(sg (cR s i)).length<7∧(cR s i= "0" ∨s.getD i 0≠48)then some ("number" :Str)else none)=none:=if_neg fun z=>hg z.2
   rw [e1,if_pos]
   by_cases h7:(sg (cR s i)).length<7
   ·refine .inr ?_
    have h48:s.getD i 0=48:=by
     by_cases q:s.getD i 0=48
     ·exact q
     ·exact absurd ⟨h7,.inr q⟩ hg
    refine⟨?_,h48⟩
    rw [hr,List.length_cons]
    cases r with
    |nil=>
     refine absurd ⟨h7,.inl ?_⟩ hg
     exact uW (by rw [hr,h48];rfl)
    |cons _ _=>simp
   ·exact .inl (by omega)
 have h2:cO (s.getD i 0)=false:=Bool.eq_false_iff.mpr h2
 have hT:iV s i=match qF (s.drop i)with
  |some y=> .ok ⟨"symbol",y,(i:Int)+1⟩
  |none=> .error ((i:Int)+1):=Vd h1 h2
 by_cases h3:tx ((s.drop i).take 2)∈qI
 ·have eE:g_ s i=i+2:=by
   unfold g_
   rw [if_neg (by rw [h1,h2];decide),if_pos h3]
  have eT:cR s i=tx ((s.drop i).take 2):=by
   unfold cR
   rw [eE,Nat.add_sub_cancel_left]
  have l2:((s.drop i).take 2).length=2:=Fd _ h3
  rw [List.length_take,hdl]at l2
  have hr: ∃r,sg (cR s i)=s.getD i 0::r:=by
   rw [eT]
   refine⟨(s.drop (i+1)).take 1,?_⟩
   show(s.drop i).take 2=_
   rw [ed]
   rfl
  have sy:cR s i∈jB:=by
   rw [eT]
   exact ace _ h3
  obtain⟨r,hr'⟩:=hr
  have c32:=(KR _ sy _ _ hr').2.2
  refine⟨by omega,by omega,⟨r,hr'⟩,fun z=>absurd z c32,fun _=>⟨Il hr' c32,?_⟩⟩
  have hk:cR s i∉eO:=fun z=>by
   have:=J9 _ z _ _ hr'
   rw [h1]at this
   cases this
  have e0:kW (s.getD i 0) (cR s i)=some ("symbol" :Str):=by
   unfold kW
   rw [if_neg hk,if_neg (fun z=>by have:=z.1;rw [h1]at this;cases this),if_neg (fun z=>by have:=z.1;rw [h2]at this;cases this),if_pos sy]
  rw [hT,e0,ago h3,eT]
 ·have eE:g_ s i=i+1:=by
   unfold g_
   rw [if_neg (by rw [h1,h2];decide),if_neg h3]
  have eT:cR s i=tx [s.getD i 0]:=by
   unfold cR
   rw [eE,Nat.add_sub_cancel_left,ed]
   rfl
  have hr:sg (cR s i)=s.getD i 0:: []:=by rw [eT]
  have hk:cR s i∉eO:=fun z=>by
   have:=J9 _ z _ _ hr
   rw [h1]at this
   cases this
  have ek:kW (s.getD i 0) (cR s i)=if cR s i∈jB then some ("symbol" :Str)else none:=by
   unfold kW
   rw [if_neg hk,if_neg (fun z=>by have:=z.1;rw [h1]at this;cases this),if_neg (fun z=>by have:=z.1;rw [h2]at this;cases this)]
  refine⟨by omega,by omega,⟨[],hr⟩,fun z=> ?_,fun c32=>⟨Il hr c32,?_⟩⟩
  ·have e:cR s i= " " :=by
    rw [eT,z]
    rfl
   refine⟨e,?_,eE⟩
   rw [ek,e]
   decide+kernel
  ·rw [ek,hT]
   rw [ed]at h3 ⊢
   rw [af2 h3,←eT]
   by_cases q:cR s i∈jB
   ·rw [if_pos q,if_pos q]
   ·rw [if_neg q,if_neg q]
def Uc:List (Str×Str×Bool):= [("SyntaxProblem","BadClaim",false),("SyntaxProblem","BadPath",false),("SyntaxProblem","Incompatible",false),("SyntaxProblem","InvalidCommand",false),("SyntaxProblem","InvalidOrdinal",false),("SyntaxProblem","NoBreakpoint",false),("SyntaxProblem","NoEvent",false),("SyntaxProblem","NoMark",false),("SyntaxProblem","NoVariable",false),("SyntaxProblem","NotLater",false),("SyntaxProblem","NotReached",false),("SyntaxProblem","OutOfRange",false),("SyntaxProblem","SyntaxProblem",true),("SyntaxProblem","TooLong",false),("SyntaxProblem","ZeroDivisor",false)]
def Wx:List (Str×String×Bool):= [("SyntaxProblem","ValueError",true)]
def tE:Str→Str→Option Bool:=Gp Uc
def wF:Str→String→Option Bool:=Gp Wx
abbrev wX:Stmt:=topS 37
abbrev Kz:List Str:= ["script","numbers","number","place"]
theorem Bw:FnScope Kz ["script"] (defScope wX):=⟨rfl,rfl,rfl,by decide+kernel,rfl,by decide+kernel,by decide+kernel⟩
def yJ:dM:=fun xs M R=> ∃ns:List Int,xs= [.scr ns]∧ns.length≤63∧ ∀p nums,nums.length≤14→M p=none→R (.raw (.ref p)) (bD M p (Gn nums 0 0))
def Wj:bK:=(aQ (aZ 1 (LC (o_ (fM (ao 0) kJ (eG (dC (.d (.int 14)))))) (iT 2) qX (dCall (g1 Jj) (aj (ao 2) aH)) [2]))
 (aQ (o9 (YB (aj (fM (ao 0) (eG (dC (.d (.int 14)))) (eG (dC (.d (.int 63))))) aH)) (w6 2 (nA (iT 3) (nA (iT 2) wH))) (jt (aA (g2 aX) (aA bf (ao 1) (aA (g2 (jA (fun _ j=>0<j) (· % ·))) (ao 3) (dC (.d (.int 14))))) (dCall (g1 Jj) (aj (ao 2) aH))) (ao 1) (aA (g2 (jA (fun _ j=>0<j) (· % ·))) (ao 3) (dC (.d (.int 14))))))
 (uo 1 (bO (u_ (aj (ao 1) (aj (dC (.d (.int 0))) (aj (dC (.d (.int 0))) aH))))))))
theorem agv: ∀xs M R,yJ xs M R→xs.length=1:=by
 rintro xs M R ⟨n,rfl,_⟩
 rfl
def Ah (i:Int):Int:=if i<0 then-i else i
theorem ahU: ∀xs M R,yJ xs M R→Wj {nx:=fun _ M'=>R (.d .none) M',rt:=R} (dD Kz xs) M:=by
 rintro xs M R ⟨ns,rfl,hl,h⟩
 have e1:iH ns none (some 14)=ns.take 14:=K8 ns 14
 have l1:(ns.take 14).length≤14:=by rw [List.length_take];omega
 refine sq fun q nq=> ?_
 refine⟨fun i M'=>M'=bD M q (.lst (((ns.take 14).take i).map fun n=>DV.d (.int (Ah n)))),rfl,?_,?_⟩
 ·rintro i x M' hx rfl
  rw [e1]at hx
  obtain⟨d,hd,rfl⟩:=yu hx
  obtain⟨n,hn,rfl⟩: ∃n,(ns.take 14)[i]? =some n∧d= .int n:=by
   rw [List.getElem?_map]at hd
   cases e:(ns.take 14)[i]? with
   |none=>rw [e]at hd;cases hd
   |some n=>rw [e]at hd;cases hd;exact⟨n,rfl,rfl⟩
  refine eV cY ⟨Wo (by rw [List.length_map,List.length_take];omega),?_⟩
  have et:(ns.take 14).take (i+1)=(ns.take 14).take i++ [n]:=by
   have:=List.take_add_one (l:=ns.take 14) (i:=i)
   rw [this,hn]
   rfl
  show bD (bD M q _) q _=bD M q _
  rw [qH,et,List.map_append]
  rfl
 ·intro M' hM'
  have e2:((List.map DV.d ((iH ns none (some 14)).map PyData.int))).length=(ns.take 14).length:=by rw [e1,List.length_map,List.length_map]
  rw [e2,List.take_length]at hM'
  subst hM'
  
  have e3:iH ns (some 14) (some 63)=(ns.drop 14).take 49:=by
   unfold iH
   rw [show HT.sIx ns.length 0 (some 14)=min 14 ns.length from HT.sIx_nat ns.length 0 14,show HT.sIx ns.length ns.length (some 63)=min 63 ns.length from HT.sIx_nat ns.length ns.length 63]
   by_cases hc:14≤ns.length
   ·rw [Nat.min_eq_left hc]
    by_cases hd:63≤ns.length
    ·rw [Nat.min_eq_left hd]
    ·rw [Nat.min_eq_right (by omega),List.take_of_length_le (by rw [List.length_drop];exact Nat.le_refl _),List.take_of_length_le (by rw [List.length_drop];omega)]
   ·have m1:min 14 ns.length=ns.length:=Nat.min_eq_right (by omega)
    rw [m1,List.drop_of_length_le (Nat.le_refl _),List.drop_of_length_le (show ns.length≤14 by omega),List.take_nil,List.take_nil]
  refine sq ⟨fun i sl M'=> ∃(nums:List Int) (t2 t3:Option DV),sl= [some (.scr ns),some (.raw (.ref q)),t2,t3]∧nums.length=(ns.take 14).length∧M'=bD M q (.lst ((dI nums).map DV.d)),
   ⟨(ns.take 14).map Ah,none,none,rfl,by rw [List.length_map],by rw [List.map_map,List.map_map];rfl⟩,?_,?_⟩
  ·rintro i x sl M' hx ⟨nums,t2,t3,rfl,hn,rfl⟩
   rw [e3,JM]at hx
   cases hd:(dI ((ns.drop 14).take 49))[i]? with
   |none=>rw [hd]at hx;cases hx
   |some d=>
    rw [hd]at hx
    cases hx
    obtain⟨n,hnn,rfl⟩: ∃n,((ns.drop 14).take 49)[i]? =some n∧d= .int n:=by
     rw [List.getElem?_map]at hd
     cases e:((ns.drop 14).take 49)[i]? with
     |none=>rw [e]at hd;cases hd
     |some n=>rw [e]at hd;cases hd;exact⟨n,rfl,rfl⟩
    have hlong:14<ns.length:=by
     have:=(List.getElem?_eq_some_iff.mp hnn).1
     rw [List.length_take,List.length_drop]at this
     omega
    have aoB:nums.length=14:=by rw [hn,List.length_take];omega
    have hm:(0:Int)<14:=by decide
    have hj: ∃j:Nat,((i:Int) % 14)=(j:Int)∧j<nums.length:=⟨i % 14,by omega,by omega⟩
    obtain⟨j,ej,hj⟩:=hj
    have ea:atI ((dI nums).map DV.d) ((i:Int) % 14)=some (.d (.int nums[j])):=by
     rw [ej,HF,HF,Gi hj]
     rfl
    have ei:ixN ((dI nums).map DV.d).length ((i:Int) % 14)=some j:=by
     rw [ej,List.length_map,List.length_map]
     unfold ixN
     rw [if_pos (by omega),if_pos (by omega),Int.toNat_natCast]
    refine⟨rfl,hm,eV cY (bB ea ⟨hm,eV cY (bB ei ?_)⟩)⟩
    refine⟨nums.set j (nums[j]+Ah n),_,_,rfl,by rw [List.length_set];exact hn,?_⟩
    rw [qH]
    show bD M q (.lst (((dI nums).map DV.d).set j (.d (.int (nums[j]+Ah n)))))=_
    rw [show(dI (nums.set j (nums[j]+Ah n)))=(dI nums).set j (.int (nums[j]+Ah n))from List.map_set,List.map_set]
  ·rintro sl M' ⟨nums,t2,t3,rfl,hn,rfl⟩
   refine eV cY (bB (YT _) ⟨by show 3≤sizeLine;decide,fun p np=> ?_⟩)
   rw [Mh nq]at np ⊢
   exact h p nums (by rw [hn];exact l1) np
theorem ahM {P:Program} {w:World} {K:PySem.W.Frag} {mg:Str→Option Value} {base:Heap} {dV:Value} {f:Addr} {fd:FuncData} (F:dw K "_law_source" "_law_source" wX dV f fd) (Im:mg "abs" =none) (Mr:mg "enumerate" =none):bM P w K mg base CX0 1 f fd ["script"] (dO K yJ):=
 F.data Bw agv Wj (fun cdv A outer s H E hg hr=>
  (aR (aic (i:=1) (own:= [("number",2)]) rfl Bw.nd rfl rfl (sw_true rfl rfl rfl (by decide+kernel)) (v8 (jo (au 0) m_ (gY aP))) (blkOk_by (own:= [("number",2)]) (N:=Kz) (sc:=defScope wX) (by decide+kernel)) (fun _ _ _ _ _=>(jf (i:=2) Bw.nd rfl (by first|exact Or.inl rfl|exact Or.inr rfl))) (fun _ _ _ _ _=>Bc) (fun _ _ _ _ _=>(gU Y5 (by rfl) Im (by decide+kernel) (aq (au 2) aM))) (by decide))
   (aR (vO PassesOwn.never rfl (agR (by rfl) Mr (aq (jo (au 0) (gY aP) (gY aP)) aM)) (Ds rfl (pK (jf (i:=3) Bw.nd rfl (by first|exact Or.inl rfl|exact Or.inr rfl)) (pK (jf (i:=2) Bw.nd rfl (by first|exact Or.inl rfl|exact Or.inr rfl)) Bl))) (aW (pD (aU bH (cH (au 1) (aU qU (au 3) aP)) (gU Y5 (by rfl) Im (by decide+kernel) (aq (au 2) aM))) (au 1) (aU qU (au 3) aP))))
   (BX 1 (aW (b_ (wj (aq (au 1) (aq aP (aq aP aM)))))))))) ahU
abbrev xJ:Stmt:=topS 36
abbrev Y_:List Str:= ["number","place","prime","value","turn"]
theorem Cz:FnScope Y_ ["number","place"] (defScope xJ):=⟨rfl,rfl,rfl,by decide+kernel,rfl,by decide+kernel,by decide+kernel⟩
def xZ:dM:=fun xs M R=> ∃n i:Int,xs= [.d (.int n),.d (.int i)]∧ ∀r,R (.d (.int r)) M
def Xj:bK:=(aQ (aZ 2 (dC (.d (.int 2305843009213693951))))
 (aQ (aZ 3 (aA (g2 (jA (fun _ j=>0<j) (· % ·))) (aA (g2 aX) (aA (g2 aX) (aA (g2 qY) (aA (g2 (jA (fun _ j=>0<j) (· % ·))) (ao 0) (ao 2)) (aA (g2 aX) (aA (g2 qY) (dC (.d (.int 2))) (ao 1)) (dC (.d (.int 3))))) (aA (g2 qY) (dC (.d (.int 7919))) (ao 1))) (dC (.d (.int 104729)))) (ao 2)))
 (aQ (o9 (wV (aj (dC (.d (.int 4))) aH)) (iT 4) (aZ 3 (aA (g2 (jA (fun _ j=>0<j) (· % ·))) (aA (g2 aX) (aA (g2 aX) (aA (g2 aX) (aA (g2 qY) (ao 3) (ao 3)) (aA (g2 qY) (aA (g2 aX) (ao 4) (dC (.d (.int 5)))) (ao 3))) (aA (g2 qY) (dC (.d (.int 31))) (ao 1))) (dC (.d (.int 1)))) (ao 2))))
 (bO (aA (g2 aX) (aA (g2 qY) (ao 3) (ao 2)) (aA (g2 (jA (fun _ j=>0<j) (· % ·))) (aA (g2 aX) (aA (g2 qY) (ao 3) (dC (.d (.int 69621)))) (ao 1)) (ao 2)))))))
theorem ah1: ∀xs M R,xZ xs M R→xs.length=2:=by
 rintro xs M R ⟨n,i,rfl,_⟩
 rfl
theorem acU: ∀xs M R,xZ xs M R→Xj {nx:=fun _ M'=>R (.d .none) M',rt:=R} (dD Y_ xs) M:=by
 rintro xs M R ⟨n,i,rfl,h⟩
 have hm:(0:Int)<2305843009213693951:=by decide
 have n0:=Int.emod_nonneg n (show(2305843009213693951:Int)≠0 by decide)
 have n1:=Int.emod_lt_of_pos n hm
 refine sq (sq ⟨hm,.inl (.inl ⟨by decide,by decide⟩),.inl (.inl ⟨by show-(2^64)<n % 2305843009213693951;omega,by show n % 2305843009213693951<2^64;omega⟩),.inl (.inl ⟨by decide,by decide⟩),hm,?_⟩)
 refine sq ⟨⟨by decide,by decide⟩,fun k sl M'=> ∃(f:Int) (t:Option DV),sl= [some (.d (.int n)),some (.d (.int i)),some (.d (.int 2305843009213693951)),some (.d (.int f)),t]∧M'=M∧0≤f∧f<2305843009213693951,
  ⟨_,none,rfl,rfl,Int.emod_nonneg _ (by decide),Int.emod_lt_of_pos _ (by decide)⟩,?_,?_⟩
 ·rintro k x sl M' hx ⟨f,t,rfl,rfl,h0,h1⟩
  obtain⟨rfl,hk⟩:=LK hx
  refine⟨.inl (.inl ⟨by omega,by omega⟩),.inl (.inr ⟨by omega,by omega⟩),.inl (.inl ⟨by decide,by decide⟩),hm,?_⟩
  exact⟨_,_,rfl,rfl,Int.emod_nonneg _ (by decide),Int.emod_lt_of_pos _ (by decide)⟩
 ·rintro sl M' ⟨f,t,rfl,rfl,h0,h1⟩
  exact⟨.inl (.inr ⟨by decide,by decide⟩),.inl (.inr ⟨by decide,by decide⟩),hm,h _⟩
theorem aeZ {P:Program} {w:World} {K:PySem.W.Frag} {mg:Str→Option Value} {base:Heap} {dV:Value} {f:Addr} {fd:FuncData} (F:dw K "_law_mixed" "_law_mixed" xJ dV f fd) (rN:mg "range" =none):bM P w K mg base CX0 1 f fd ["number","place"] (dO K xZ):=
 F.data Cz ah1 Xj (fun cdv A outer s H E hg hr=>
  (aR (bx (i:=2) Cz.nd rfl (by first|exact Or.inl rfl|exact Or.inr rfl) aP)
   (aR (bx (i:=3) Cz.nd rfl (by first|exact Or.inl rfl|exact Or.inr rfl) (aU qU (aU bH (aU bH (aU rW (aU qU (au 0) (au 2)) (aU bH (aU rW aP (au 1)) aP)) (aU rW aP (au 1))) aP) (au 2)))
   (aR (vO PassesOwn.never rfl (Gm (by rfl) rN (aq aP aM)) (jf (i:=4) Cz.nd rfl (by first|exact Or.inl rfl|exact Or.inr rfl)) (aW (bx (i:=3) Cz.nd rfl (by first|exact Or.inl rfl|exact Or.inr rfl) (aU qU (aU bH (aU bH (aU bH (aU rW (au 3) (au 3)) (aU rW (aU bH (au 4) aP) (au 3))) (aU rW aP (au 1))) aP) (au 2)))))
   (aW (b_ (aU bH (aU rW (au 3) (au 2)) (aU qU (aU bH (aU rW (au 3) aP) (au 1)) (au 2))))))))) acU
abbrev zm:Stmt:=topS 38
abbrev V2:List Str:= ["source","many","numbers","place","number","found"]
theorem Cm:FnScope V2 ["source","many"] (defScope zm):=⟨rfl,rfl,rfl,by decide+kernel,rfl,by decide+kernel,by decide+kernel⟩
def h_:dM:=fun xs M R=> ∃(p:Addr) (b:Int),xs= [.raw (.ref p),.d (.int b)]∧0<b∧b<2^200∧dH M p∧ ∀r M',0≤r→r<b→Keeps p M M'→dH M' p→R (.d (.int r)) M'
def T5:bK:=(aQ (bZ (dB (aA (g2 j8) (aA bf (ao 0) (dC (.d (.int 2)))) (ao 1))) (aQ (dPar 2 3 (aj (aA bf (ao 0) (dC (.d (.int 0)))) (aj (aA bf (ao 0) (dC (.d (.int 1)))) aH)))
 (aQ (aZ 4 (jY (dB (aA (g2 jC) (ao 2) (cU aH))) (aA bf (ao 2) (aA (g2 (jA (fun _ j=>0<j) (· % ·))) (ao 3) (dCall iw (aj (ao 2) aH)))) (dC (.d (.int 0)))))
 (aQ (bZ (mD (dB (aA (g2 j8) (ao 4) (aA (g2 (jA CPow fun i j=>i^j.toNat)) (dC (.d (.int 10))) (dC (.d (.int 18)))))) (dB (aA (g2 (jX fun i j=>decide (j≤i))) (ao 3) (dCall iw (aj (ao 2) aH))))) (aZ 4 (dCall xZ (aj (aA (g2 aX) (aA (g2 (jA (fun _ j=>0<j) (· % ·))) (ao 4) (aA (g2 (jA CPow fun i j=>i^j.toNat)) (dC (.d (.int 10))) (dC (.d (.int 15))))) (aA (g2 (jA CDivW (· / ·))) (ao 3) (aA (g2 aX) (dCall iw (aj (ao 2) aH)) (dC (.d (.int 1)))))) (aj (ao 3) aH)))) cV)
 (aQ (jt (aA (g2 aX) (ao 3) (dC (.d (.int 1)))) (ao 0) (dC (.d (.int 1))))
 (jt (ao 4) (ao 0) (dC (.d (.int 2)))))))) cV)
 (aQ (aZ 5 (aA (g2 (jA (fun _ j=>0<j) (· % ·))) (aA bf (ao 0) (dC (.d (.int 2)))) (ao 1)))
 (aQ (jt (aA (g2 (jA CDivW (· / ·))) (aA bf (ao 0) (dC (.d (.int 2)))) (ao 1)) (ao 0) (dC (.d (.int 2))))
 (bO (ao 5)))))
theorem aeB: ∀xs M R,h_ xs M R→xs.length=2:=by
 rintro xs M R ⟨p,b,rfl,_⟩
 rfl
theorem agI {a b c:DV}:atI [a,b,c] 0=some a:=rfl
theorem ais {a b c:DV}:atI [a,b,c] 1=some b:=rfl
theorem Jo {a b c:DV}:atI [a,b,c] 2=some c:=rfl
theorem aeJ: ∀xs M R,h_ xs M R→T5 {nx:=fun _ M'=>R (.d .none) M',rt:=R} (dD V2 xs) M:=by
 rintro xs M R ⟨p,b,rfl,hb,hb2,⟨nums,i,z,Io,hM⟩,h⟩
 refine aY (fun sl M1=> ∃(nums:List Int) (i z:Int) (t2 t3 t4:Option DV),sl= [some (.raw (.ref p)),some (.d (.int b)),t2,t3,t4,none]∧Keeps p M M1∧nums.length≤14∧M1 p=some (Gn nums i z)) (fun N hN=> ?_) ?_
 ·refine eV hM (bB Jo ?_)
  refine gq (fun hc=> ?_) (fun hc=>hN _ _ ⟨nums,i,z,_,_,_,rfl,Keeps.refl p M,Io,hM⟩)
  refine sq (eV hM (bB agI ?_))
  refine eV hM (bB ais ?_)
  refine aY (fun sl M1=>M1=M∧ ∃number:Int,sl= [some (.raw (.ref p)),some (.d (.int b)),some (.d (.list (dI nums))),some (.d (.int i)),some (.d (.int number)),none]) (fun N1 hN1=> ?_) ?_
  ·refine bB rfl ⟨Nat.zero_le _,ab9 (VH _),?_⟩
   rw [abW]
   refine acN (fun h1=> ?_) (fun h1=>hN1 _ _ ⟨rfl,0,rfl⟩)
   have hne:nums≠ []:=fun z=>h1 (afS.mpr z)
   have hl:0<nums.length:=List.length_pos_iff.mpr hne
   have hl2:(0:Int)<((dI nums).length:Int):=by rw [List.length_map];omega
   refine⟨hl2,?_⟩
   have hj: ∃j:Nat,i % ((dI nums).length:Int)=(j:Int)∧j<nums.length:=by
    have a1:=Int.emod_nonneg i (show((dI nums).length:Int)≠0 by omega)
    have a2:=Int.emod_lt_of_pos i hl2
    rw [List.length_map]at a1 a2 ⊢
    exact⟨(i % (nums.length:Int)).toNat,by omega,by omega⟩
   obtain⟨j,ej,hj⟩:=hj
   exact bB (by show atI (dI nums) (i % _)=_;rw [ej,HF,Gi hj];rfl) (hN1 _ _ ⟨rfl,nums[j],rfl⟩)
  ·rintro sl M1 ⟨rfl,number,rfl⟩
   refine aY (fun sl M2=>M2=M1∧ ∃number:Int,sl= [some (.raw (.ref p)),some (.d (.int b)),some (.d (.list (dI nums))),some (.d (.int i)),some (.d (.int number)),none]) (fun N2 hN2=> ?_) ?_
   ·have h15:(0:Int)<10^(Int.toNat 15):=by decide
    have hd:CDivW i (((dI nums).length:Int)+1):=by
     rw [List.length_map]
     refine wide_div (by omega) (b:=60) ?_ (by decide) (by decide)
     omega
    refine⟨⟨by decide,by decide,by decide⟩,?_⟩
    refine gq (fun h1=> ?_) (fun h1=>gq (fun h2=> ?_) (fun h2=>hN2 _ _ ⟨rfl,number,rfl⟩))
    ·exact⟨⟨by decide,by decide,by decide⟩,h15,hd,_,_,rfl,fun r=>hN2 _ _ ⟨rfl,r,rfl⟩⟩
    ·exact⟨⟨by decide,by decide,by decide⟩,h15,hd,_,_,rfl,fun r=>hN2 _ _ ⟨rfl,r,rfl⟩⟩
   ·rintro sl M2 ⟨rfl,n2,rfl⟩
    refine sq (eV hM (bB (x:=1) rfl ?_))
    refine eV cY (bB (x:=2) rfl ?_)
    exact hN _ _ ⟨nums,i+1,n2,_,_,_,rfl,((Keeps.refl p M2).upd _).upd _,Io,by rw [cY];rfl⟩
 ·rintro sl M1 ⟨nums,i,z,t2,t3,t4,rfl,hk,Io,hM1⟩
  have hW:CDivW z b:=wide_div hb (b:=200) (by omega) (by decide) (by decide)
  refine sq (eV hM1 (bB Jo ⟨hb,?_⟩))
  refine sq (eV hM1 (bB Jo ⟨hW,?_⟩))
  refine eV hM1 (bB (x:=2) rfl ?_)
  refine h _ _ (Int.emod_nonneg _ (by omega)) (Int.emod_lt_of_pos _ hb) (hk.upd _) ⟨nums,i,z/b,Io,?_⟩
  rw [cY]
  rfl
theorem ahT {P:Program} {w:World} {K:PySem.W.Frag} {mg:Str→Option Value} {base:Heap} {dV:Value} {f:Addr} {fd:FuncData} (F:dw K "_law_pick" "_law_pick" zm dV f fd) (Ms:Def P w K mg base "_law_mixed" 1 xZ) (fJ:mg "len" =none):bM P w K mg base CX0 2 f fd ["source","many"] (dO K h_):=
 F.data Cm aeB T5 (fun cdv A outer s H E hg hr=>
  (aR (cP (bJ (qZ hr) (cH (au 0) aP) (au 1) (nomark _)) (aR (acs (i:=2) (j:=3) rfl Cm.nd rfl rfl (by decide) rfl rfl (aq (cH (au 0) aP) (aq (cH (au 0) aP) aM)) (by rfl))
   (aR (bx (i:=4) Cm.nd rfl (by first|exact Or.inl rfl|exact Or.inr rfl) (n_ (bJ (mO hr) (au 2) (dZ aM) (nomark _)) (cH (au 2) (aU qU (au 3) (gU jJ (by rfl) fJ (by decide+kernel) (aq (au 2) aM)))) aP))
   (aR (cP (jU (qT (bJ (qZ hr) (au 4) (aU V5 aP aP) (nomark _)) (tD (bJ Zd (au 3) (gU jJ (by rfl) fJ (by decide+kernel) (aq (au 2) aM)) (nomark _))))) (aW (bx (i:=4) Cm.nd rfl (by first|exact Or.inl rfl|exact Or.inr rfl) (Ms.de hg (hr.mono (by decide)) (by rfl) (aq (aU bH (aU qU (au 4) (aU V5 aP aP)) (aU CP (au 3) (aU bH (gU jJ (by rfl) fJ (by decide+kernel) (aq (au 2) aM)) aP))) (aq (au 3) aM))))) cW)
   (aR (pD (aU bH (au 3) aP) (au 0) aP)
   (aW (pD (au 4) (au 0) aP)))))) cW)
   (aR (bx (i:=5) Cm.nd rfl (by first|exact Or.inl rfl|exact Or.inr rfl) (aU qU (cH (au 0) aP) (au 1)))
   (aR (pD (aU CP (cH (au 0) aP) (au 1)) (au 0) aP)
   (aW (b_ (au 5))))))) aeJ
abbrev yx:Stmt:=topS 39
abbrev Vg:List Str:= ["source","options"]
theorem af7:FnScope Vg ["source","options"] (defScope yx):=⟨rfl,rfl,rfl,by decide+kernel,rfl,by decide+kernel,by decide+kernel⟩
def jR:dM:=fun xs M R=> ∃(p:Addr) (ds:List PyData),xs= [.raw (.ref p),.d (.list ds)]∧0<ds.length∧ds.length≤100000∧dH M p∧ ∀d M',d∈ds→Keeps p M M'→dH M' p→R (.d d) M'
def XH:bK:=(bO (aA bf (ao 1) (dCall h_ (aj (ao 0) (aj (dCall iw (aj (ao 1) aH)) aH)))))
theorem afY: ∀xs M R,jR xs M R→xs.length=2:=by
 rintro xs M R ⟨p,b,rfl,_⟩
 rfl
theorem adn: ∀xs M R,jR xs M R→XH {nx:=fun _ M'=>R (.d .none) M',rt:=R} (dD Vg xs) M:=by
 rintro xs M R ⟨p,ds,rfl,h0,h1,hs,h⟩
 refine⟨p,(ds.length:Int),rfl,by omega,by omega,hs,fun r M' r0 r1 hk hs'=> ?_⟩
 obtain⟨j,rfl⟩: ∃j:Nat,r=(j:Int):=⟨r.toNat,by omega⟩
 have hj:j<ds.length:=by omega
 exact bB (Gi hj) (h _ M' (List.getElem_mem hj) hk hs')
theorem aeI {P:Program} {w:World} {K:PySem.W.Frag} {mg:Str→Option Value} {base:Heap} {dV:Value} {f:Addr} {fd:FuncData} (F:dw K "_law_choose" "_law_choose" yx dV f fd) (fX:Def P w K mg base "_law_pick" 2 h_) (fJ:mg "len" =none):bM P w K mg base CX0 3 f fd ["source","options"] (dO K jR):=
 F.data af7 afY XH (fun cdv A outer s H E hg hr=>
  (aW (b_ (cH (au 1) (fX.de hg (hr.mono (by decide)) (by rfl) (aq (au 0) (aq (gU jJ (by rfl) fJ (by decide+kernel) (aq (au 1) aM)) aM))))))) adn
abbrev xW:Stmt:=topS 42
abbrev Xg:List Str:= ["expression","ranks"]
theorem Vh:FnScope Xg ["expression"] (defScope xW):=⟨rfl,rfl,rfl,by decide+kernel,rfl,by decide+kernel,by decide+kernel⟩
def z_:dM:=fun xs M R=> ∃e:Ex,xs= [.d e.d]∧ ∀M',MK [] M M'→R (.d (.int ((e.rnk:Nat):Int))) M'
def YC:bK:=(aQ (aZ 1 (X5 [((dC (.d (.str "if"))),(dC (.d (.int 0)))),((dC (.d (.str "or"))),(dC (.d (.int 1)))),((dC (.d (.str "and"))),(dC (.d (.int 2)))),((dC (.d (.str "not"))),(dC (.d (.int 3)))),((dC (.d (.str "+"))),(dC (.d (.int 5)))),((dC (.d (.str "-"))),(dC (.d (.int 5)))),((dC (.d (.str "*"))),(dC (.d (.int 6)))),((dC (.d (.str "mod"))),(dC (.d (.int 6)))),((dC (.d (.str "neg"))),(dC (.d (.int 7))))]))
 (aQ (YH (ao 1) (Wf [((dC (.d (.str "int"))),(dC (.d (.int 8)))),((dC (.d (.str "name"))),(dC (.d (.int 8)))),((dC (.d (.str "min"))),(dC (.d (.int 8)))),((dC (.d (.str "max"))),(dC (.d (.int 8))))]))
 (bO (Jq (ao 1) (aA bf (ao 0) (dC (.d (.int 0)))) (dC (.d (.int 4)))))))
theorem adf: ∀xs M R,z_ xs M R→xs.length=1:=by
 rintro xs M R ⟨e,rfl,_⟩
 rfl
def VB:List (Key×DV):=qD (qD [] [(.inr "if",.d (.int 0)),(.inr "or",.d (.int 1)),(.inr "and",.d (.int 2)),(.inr "not",.d (.int 3)),(.inr "+",.d (.int 5)),(.inr "-",.d (.int 5)),(.inr "*",.d (.int 6)),(.inr "mod",.d (.int 6)),(.inr "neg",.d (.int 7))]) [(.inr "int",.d (.int 8)),(.inr "name",.d (.int 8)),(.inr "min",.d (.int 8)),(.inr "max",.d (.int 8))]
theorem ahw (e:Ex): ∃y:Str,(∃r,e.d= .tuple (.str y::r))∧(je VB (.inr y)).getD (.d (.int 4))= .d (.int ((e.rnk:Nat):Int)):=by
 cases e with
 |int i=>exact⟨_,⟨_,rfl⟩,rfl⟩
 |name x=>exact⟨_,⟨_,rfl⟩,rfl⟩
 |ite a b c=>exact⟨_,⟨_,rfl⟩,rfl⟩
 |un o a=>cases o<;>exact⟨_,⟨_,rfl⟩,rfl⟩
 |bin o a b=>cases o<;>exact⟨_,⟨_,rfl⟩,rfl⟩
theorem aeA: ∀xs M R,z_ xs M R→YC {nx:=fun _ M'=>R (.d .none) M',rt:=R} (dD Xg xs) M:=by
 rintro xs M R ⟨e,rfl,hR⟩
 obtain⟨y,⟨r,ed⟩,hy⟩:=ahw e
 refine sq (bL fun p np=>⟨cY,bB rfl ⟨by decide,?_⟩⟩)
 rw [qH]
 refine sq (aG rfl (Cd cY ?_))
 refine fun q nq=>⟨cY,bB rfl ⟨by decide,bB rfl ?_⟩⟩
 have hpq:p≠q:=fun e=>by rw [e,cY]at nq;cases nq
 rw [Mh nq]
 refine Cd cY ⟨[(.inr "int",.int 8),(.inr "name",.int 8),(.inr "min",.int 8),(.inr "max",.int 8)],rfl,Nat.le_of_ble_eq_true rfl,?_⟩
 rw [qH]
 dsimp only
 refine cJ ?_
 unfold Jq
 refine aG rfl ⟨⟨_,_,rfl,cY⟩,?_⟩
 rw [ed]
 refine aO (aG rfl (aN (bB (show atI (PyData.str y::r) ((0:Nat):Int)=some (.str y)from atI_nat rfl) ?_)))
 refine aN ⟨_,_,.inr y,rfl,cY,rfl,?_⟩
 show R ((je VB (.inr y)).getD (.d (.int 4))) _
 rw [hy]
 exact hR _ (MK.new np)
theorem aeR {P:Program} {w:World} {K:PySem.W.Frag} {mg:Str→Option Value} {base:Heap} {dV:Value} {f:Addr} {fd:FuncData} (F:dw K "_law_rank" "_law_rank" xW dV f fd):bM P w K mg base CX0 1 f fd ["expression"] (dO K z_):=
 F.data Vh adf YC (fun cdv A outer s H E hg hr=>
  (aR (bx (i:=1) Vh.nd rfl (by first|exact Or.inl rfl|exact Or.inr rfl) (aes (trs:= [((dC (.d (.str "if"))),(dC (.d (.int 0)))),((dC (.d (.str "or"))),(dC (.d (.int 1)))),((dC (.d (.str "and"))),(dC (.d (.int 2)))),((dC (.d (.str "not"))),(dC (.d (.int 3)))),((dC (.d (.str "+"))),(dC (.d (.int 5)))),((dC (.d (.str "-"))),(dC (.d (.int 5)))),((dC (.d (.str "*"))),(dC (.d (.int 6)))),((dC (.d (.str "mod"))),(dC (.d (.int 6)))),((dC (.d (.str "neg"))),(dC (.d (.int 7))))]) (pps_cons aK aP (pps_cons aK aP (pps_cons aK aP (pps_cons aK aP (pps_cons aK aP (pps_cons aK aP (pps_cons aK aP (pps_cons aK aP (pps_cons aK aP pps_nil)))))))))))
   (aR (ahe (au 1) (ae_ (trs:= [((dC (.d (.str "int"))),(dC (.d (.int 8)))),((dC (.d (.str "name"))),(dC (.d (.int 8)))),((dC (.d (.str "min"))),(dC (.d (.int 8)))),((dC (.d (.str "max"))),(dC (.d (.int 8))))]) (pps_cons aK aP (pps_cons aK aP (pps_cons aK aP (pps_cons aK aP pps_nil))))))
   (aW (b_ (acC hr (au 1) (cH (au 0) aP) aP)))))) aeA
abbrev qp:Stmt:=topS 43
abbrev Gh:List Str:= ["source","expression","rank","spare","operator","own","parts","part","left"]
theorem uP:FnScope Gh ["source","expression","rank","spare"] (defScope qp):=⟨rfl,rfl,rfl,by decide+kernel,rfl,by decide+kernel,by decide+kernel⟩
structure TS (M:Mem) (p q:Addr) (s:Nat):Prop where
 src:dH M p
 spa:M q=some (.lst [.d (.int (s:Nat))])
theorem TS.ne {M:Mem} {p q:Addr} {s:Nat} (h:TS M p q s):q≠p:=by
 rintro rfl
 obtain⟨nums,i,z,_,e⟩:=h.src
 have:=e.symm.trans h.spa
 cases this
theorem Lf {M M':Mem} {p:Addr} {S:List Addr} (h:dH M p) (k:MK S M M') (hp:p∉S):dH M' p:=by
 obtain⟨nums,i,z,l,e⟩:=h
 exact⟨nums,i,z,l,k _ _ e hp⟩
theorem TS.keep {M M':Mem} {p q:Addr} {s:Nat} (h:TS M p q s) (k:MK [] M M'):TS M' p q s:=⟨Lf h.src k (by simp),k _ _ h.spa (by simp)⟩
theorem TS.pick {M M':Mem} {p q:Addr} {s:Nat} (h:TS M p q s) (k:Keeps p M M') (h':dH M' p):TS M' p q s:=⟨h',by rw [k q h.ne];exact h.spa⟩
theorem YG {M M':Mem} {p:Addr} (q:Addr) (k:Keeps p M M'):MK [p,q] M M':=fun b o e n=>by
 rw [k b (fun z=>n (by simp [z]))]
 exact e
def lF (n:Nat):dM:=fun xs M R=> ∃(p q:Addr) (e:Ex) (r s:Nat) (names:List Str),xs= [.raw (.ref p),.d e.d,.d (.int (r:Nat)),.raw (.ref q)]∧r≤8∧s≤3∧TS M p q s∧e.okS names∧e.dep≤4∧5*e.dep+s+(if e.rnk<r then 1 else 0)<n∧
 ∀l s' M',e.Wr s r l→s'≤s→TS M' p q s'→MK [p,q] M M'→R (.d (.list (l.map PyData.str))) M'
theorem ag8: ∀xs M R,¬lF 0 xs M R:=by
 rintro xs M R ⟨p,q,e,r,s,names,rfl,_,_,_,_,_,h,_⟩
 omega
theorem BR {te:TD} {sl:Slots} {M:Mem} {R:KD} (x:Str) (ht: ∀R:KD,R (.d (.str x)) M→te sl M R) (k:R (.d (.list ((l1 x).map PyData.str))) M):cU (aj te aH) sl M R:=ht _ (bB rfl ⟨Nat.le_of_ble_eq_true rfl,k⟩)
theorem wJ {x:Str} {sl:Slots} {M:Mem} {R:KD} (k:R (.d (.list ((l1 x).map PyData.str))) M):cU (aj (dC (.d (.str x))) aH) sl M R:=BR x (fun _ h=>h) k
theorem T8 {e:Ex} (h:e.dep≤4):lU e.dep≤1007:=u5 (n:=4) h
theorem uM {e:Ex} (h:e.dep≤3):lU e.dep≤332:=u5 (n:=3) h
theorem Xb {n:Nat} {p q:Addr} {s:Nat} {names:List Str} {es:List Ex} {wi:lG} {x1 x2 x4 x5 x6 x7 x8:Option DV} {M:Mem} {R:KD} (hwi: ∀RR:List DV→Mem→Prop,RR ((es.map Ex.d).map DV.d) M→wi [some (.raw (.ref p)),x1,x2,some (.raw (.ref q)),x4,x5,x6,x7,x8] M RR) (hs:s≤3) (hT:TS M p q s) (hok: ∀e∈es,e.okS names∧e.dep≤3∧5*e.dep+3<n) (hl:es.length≤3)
  (k: ∀(ls:List (List Str)) (s':Nat) M',ls.length=es.length→(∀(j:Nat) (e:Ex) (l:List Str),es[j]? =some e→ls[j]? =some l→e.Wr 3 0 l)→s'≤s→TS M' p q s'→MK [p,q] M M'→R (.d (.list (ls.map fun l=> .list (l.map PyData.str)))) M'):
  xY wi (iT 7) qX (dCall (lF n) (aj (ao 0) (aj (ao 7) (aj (dC (.d (.int 0))) (aj (ao 3) aH))))) [7] [some (.raw (.ref p)),x1,x2,some (.raw (.ref q)),x4,x5,x6,x7,x8] M R:=by
 refine hwi _ ?_
 intro c nc
 have cp:c≠p:=fun e=>by
  obtain⟨nums,i,z,_,e2⟩:=hT.src
  rw [←e,nc]at e2
  cases e2
 have cq:c≠q:=fun e=>by
  have:=hT.spa
  rw [←e,nc]at this
  cases this
 refine⟨fun i M'=> ∃(ls:List (List Str)) (s':Nat),ls.length=i∧(∀(j:Nat) (e:Ex) (l:List Str),es[j]? =some e→ls[j]? =some l→e.Wr 3 0 l)∧s'≤s∧TS M' p q s'∧MK [p,q,c] M M'∧M' c=some (.lst (ls.map fun l=> .d (.list (l.map PyData.str)))),⟨[],s,rfl,fun j e l _ h=>(by cases h),Nat.le_refl _,hT.keep (MK.new nc),MK.new nc,cY⟩,?_,?_⟩
 ·rintro i x M' hx ⟨ls,s',hli,hw,hs',hT',k',hc⟩
  rw [List.map_map]at hx
  obtain⟨e,he,rfl⟩:=yu hx
  have ho:=hok e (List.mem_of_getElem? he)
  have hi:=(List.getElem?_eq_some_iff.mp he).1
  refine jL ?_
  refine acq (cG rfl ?_)
  refine bQ (aJ (aG rfl (aJ (aG rfl (aJ (aN (aJ (aG rfl (aV ?_)))))))))
  refine⟨p,q,e,0,s',names,rfl,by omega,by omega,hT',ho.1,by omega,?_,fun l s2 M2 hwr hs2 hT2 k2=> ?_⟩
  ·rw [if_neg (by omega)]
   omega
  have hc2:M2 c=some (.lst (ls.map fun l=> .d (.list (l.map PyData.str)))):=k2 _ _ hc (by simp [cp,cq])
  refine eV hc2 ⟨?_,ls++ [l],s2,?_,?_,by omega,⟨Lf (S:= [c]) hT2.src lO (by simpa using cp.symm),(fO cq.symm).trans hT2.spa⟩,?_,?_⟩
  ·rw [List.length_map]
   exact Nat.lt_of_le_of_lt (show ls.length≤3 by omega) (by decide)
  ·rw [List.length_append,hli]
   rfl
  ·intro j e' l' hj hl'
   by_cases hjl:j<ls.length
   ·rw [List.getElem?_append_left hjl]at hl'
    exact hw j e' l' hj hl'
   ·rw [List.getElem?_append_right (by omega)]at hl'
    have h0:j-ls.length=0:=by
     have:=(List.getElem?_eq_some_iff.mp hl').1
     rw [List.length_singleton]at this
     omega
    rw [h0]at hl'
    cases hl'
    have:j=i:=by omega
    rw [this,he]at hj
    cases hj
    exact hwr.mono (by omega)
  ·refine MK.trans k' (MK.trans (k2.mono fun x hx=> ?_) (lO.mono fun x hx=> ?_))
   ·simp at hx ⊢
    rcases hx with h|h<;>simp [h]
   ·simp at hx ⊢
    simp [hx]
  ·rw [cY,List.map_append]
   rfl
 ·rintro M' ⟨ls,s',hli,hw,hs',hT',k',hc⟩
  rw [List.length_map,List.length_map]at hli
  refine eV hc (bB (x:=ls.map fun l=> .list (l.map PyData.str)) ?_ ?_)
  ·have: ∀ls:List (List Str),jQ (ls.map fun l=>DV.d (.list (l.map PyData.str)))=some (ls.map fun l=> .list (l.map PyData.str)):=by
    intro ls
    induction ls with
    |nil=>rfl
    |cons a ls ih=>
     show(jQ (ls.map fun l=>DV.d (.list (l.map PyData.str)))).map _=_
     rw [ih]
     rfl
   exact this ls
  ·refine k ls s' _ hli hw hs' ⟨?_,?_⟩ ?_
   ·obtain⟨nums,i,z,l,e⟩:=hT'.src
    exact⟨nums,i,z,l,by rw [m9 cp.symm];exact e⟩
   ·rw [m9 cq.symm]
    exact hT'.spa
   ·intro b o e hb
    have hbc:b≠c:=fun z=>by rw [z,nc]at e;cases e
    rw [m9 hbc]
    exact k' b o e (by simp at hb ⊢;exact⟨hb.1,hb.2,hbc⟩)
def Zu (n:Nat):bK:=(aQ (aZ 4 (aA bf (ao 1) (dC (.d (.int 0)))))
 (aQ (aZ 5 (dCall z_ (aj (ao 1) aH)))
 (aQ (bZ (mD (dB (aA (g2 j8) (ao 5) (ao 2))) (jG (dB (aA (g2 (jX fun i j=>decide (j<i))) (aA bf (ao 3) (dC (.d (.int 0)))) (dC (.d (.int 0))))) (dB (aA (g2 eU) (dCall h_ (aj (ao 0) (aj (dC (.d (.int 12))) aH))) (dC (.d (.int 0))))))) (aQ (jt (aA (g2 (intOp (· - ·))) (aA bf (ao 3) (dC (.d (.int 0)))) (dCall (g1 uN) (aj (aA (g2 (jX fun i j=>decide (j≤i))) (ao 5) (ao 2)) aH))) (ao 3) (dC (.d (.int 0))))
 (bO (aA (g2 aX) (aA (g2 aX) (cU (aj (dC (.d (.str "("))) aH)) (dCall (lF n) (aj (ao 0) (aj (ao 1) (aj (dC (.d (.int 0))) (aj (ao 3) aH)))))) (cU (aj (dC (.d (.str ")"))) aH))))) cV)
 (aQ (bZ (dB (aA (g2 (inD false)) (ao 4) (dTup (aj (dC (.d (.str "int"))) (aj (dC (.d (.str "name"))) aH))))) (bO (cU (aj (dCall Kf (aj (aA bf (ao 1) (dC (.d (.int 1)))) aH)) aH))) cV)
 (aQ (bZ (dB (aA (g2 eU) (ao 4) (dC (.d (.str "if"))))) (aQ (aZ 6 (xY (o_ (fM (ao 1) (eG (dC (.d (.int 1)))) kJ)) (iT 7) qX (dCall (lF n) (aj (ao 0) (aj (ao 7) (aj (dC (.d (.int 0))) (aj (ao 3) aH))))) [7]))
 (bO (aA (g2 aX) (aA (g2 aX) (aA (g2 aX) (aA (g2 aX) (aA (g2 aX) (cU (aj (dC (.d (.str "if"))) aH)) (aA bf (ao 6) (dC (.d (.int 0))))) (cU (aj (dC (.d (.str "then"))) aH))) (aA bf (ao 6) (dC (.d (.int 1))))) (cU (aj (dC (.d (.str "else"))) aH))) (aA bf (ao 6) (dC (.d (.int 2))))))) cV)
 (aQ (bZ (dB (aA (g2 (inD false)) (ao 4) (dTup (aj (dC (.d (.str "min"))) (aj (dC (.d (.str "max"))) aH))))) (aQ (aZ 6 (xY (o_ (fM (ao 1) (eG (dC (.d (.int 1)))) kJ)) (iT 7) qX (dCall (lF n) (aj (ao 0) (aj (ao 7) (aj (dC (.d (.int 0))) (aj (ao 3) aH))))) [7]))
 (bO (aA (g2 aX) (aA (g2 aX) (aA (g2 aX) (aA (g2 aX) (cU (aj (ao 4) (aj (dC (.d (.str "("))) aH))) (aA bf (ao 6) (dC (.d (.int 0))))) (cU (aj (dC (.d (.str ","))) aH))) (aA bf (ao 6) (dC (.d (.int 1))))) (cU (aj (dC (.d (.str ")"))) aH))))) cV)
 (aQ (bZ (dB (aA (g2 (inD false)) (ao 4) (dTup (aj (dC (.d (.str "not"))) (aj (dC (.d (.str "neg"))) aH))))) (bO (aA (g2 aX) (cU (aj (jY (dB (aA (g2 eU) (ao 4) (dC (.d (.str "not"))))) (dC (.d (.str "not"))) (dC (.d (.str "-")))) aH)) (dCall (lF n) (aj (ao 0) (aj (aA bf (ao 1) (dC (.d (.int 1)))) (aj (ao 5) (aj (ao 3) aH))))))) cV)
 (aQ (aZ 8 (dCall (lF n) (aj (ao 0) (aj (aA bf (ao 1) (dC (.d (.int 1)))) (aj (aA (g2 aX) (ao 5) (dCall (g1 uN) (aj (aA (g2 eU) (ao 5) (dC (.d (.int 4)))) aH))) (aj (ao 3) aH))))))
 (bO (aA (g2 aX) (aA (g2 aX) (ao 8) (cU (aj (ao 4) aH))) (dCall (lF n) (aj (ao 0) (aj (aA bf (ao 1) (dC (.d (.int 2)))) (aj (aA (g2 aX) (ao 5) (dC (.d (.int 1)))) (aj (ao 3) aH)))))))))))))))
theorem ahd (n:Nat): ∀xs M R,lF n xs M R→xs.length=4:=by
 rintro xs M R ⟨p,q,e,r,s,names,rfl,_⟩
 rfl
theorem ae4 (o:Op):o.s∉(["int","name"]:List Str)∧o.s≠("if" :Str)∧(o.s∈(["min","max"]:List Str)↔v9 o=true)∧o.s∉(["not","neg"]:List Str):=by
 cases o<;>decide+kernel
theorem agL: ∀n xs M R,lF (n+1) xs M R→Zu n {nx:=fun _ M'=>R (.d .none) M',rt:=R} (dD Gh xs) M:=by
 rintro n xs M R ⟨p,q,e,r,s,names,rfl,hr,hs,hT,hok,mV,hn,hR⟩
 refine aY (fun sl M1=>sl= [some (.raw (.ref p)),some (.d e.d),some (.d (.int (r:Nat))),some (.raw (.ref q)),some (.d (.str e.opS)),none,none,none,none]∧M1=M) (fun N hN=> ?_) ?_
 ·exact bL (aO (aG rfl (aN (afo (hN _ _ ⟨rfl,rfl⟩)))))
 rintro sl M1 ⟨rfl,rfl⟩
 refine aY (fun sl M2=>sl= [some (.raw (.ref p)),some (.d e.d),some (.d (.int (r:Nat))),some (.raw (.ref q)),some (.d (.str e.opS)),some (.d (.int (e.rnk:Nat))),none,none,none]∧TS M2 p q s∧MK [p,q] M1 M2) (fun N hN=> ?_) ?_
 ·exact bL (bQ (aJ (aG rfl (aV ⟨e,rfl,fun M' k=>hN _ _ ⟨rfl,hT.keep k,k.mono fun _ h=>by cases h⟩⟩))))
 rintro sl M2 ⟨rfl,hT2,k2⟩
 have wl: ∀l s',s'≤s→e.Wr s' r l→l.length≤1007:=fun l s' h1 h2=>Nat.le_trans (jT e s' r l (by omega) hr h2) (T8 mV)
 
 refine aY (fun sl M3=>sl= [some (.raw (.ref p)),some (.d e.d),some (.d (.int (r:Nat))),some (.raw (.ref q)),some (.d (.str e.opS)),some (.d (.int (e.rnk:Nat))),none,none,none]∧ ¬e.rnk<r∧TS M3 p q s∧MK [p,q] M1 M3) (fun N hN=> ?_) ?_
 ·have Zy: ∀M3,TS M3 p q s→MK [p,q] M1 M3→(e.rnk<r∨0<s)→aQ (jt (aA (g2 (intOp (· - ·))) (aA bf (ao 3) (dC (.d (.int 0)))) (dCall (g1 uN) (aj (aA (g2 (jX fun i j=>decide (j≤i))) (ao 5) (ao 2)) aH))) (ao 3) (dC (.d (.int 0))))
    (bO (aA (g2 aX) (aA (g2 aX) (cU (aj (dC (.d (.str "("))) aH)) (dCall (lF n) (aj (ao 0) (aj (ao 1) (aj (dC (.d (.int 0))) (aj (ao 3) aH)))))) (cU (aj (dC (.d (.str ")"))) aH)))) {nx:=N,rt:=R}
    [some (.raw (.ref p)),some (.d e.d),some (.d (.int (r:Nat))),some (.raw (.ref q)),some (.d (.str e.opS)),some (.d (.int (e.rnk:Nat))),none,none,none] M3:=by
   intro M3 hT3 k3 hc
   obtain⟨s',es',hs1,hs2⟩: ∃s':Nat,((s:Nat):Int)-(if decide (((r:Nat):Int)≤((e.rnk:Nat):Int))=true then 1 else 0)=((s':Nat):Int)∧s'≤s∧(¬e.rnk<r→s'+1=s):=by
    by_cases q:r≤e.rnk
    ·rw [if_pos (decide_eq_true (by omega))]
     exact⟨s-1,by omega,by omega,fun _=>by omega⟩
    ·rw [if_neg (by rw [decide_eq_true_iff];omega)]
     exact⟨s,by omega,by omega,fun h=>by omega⟩
   refine sq ?_
   refine aO (aO (aG rfl (aN (eV hT3.spa (bB (show atI _ ((0:Nat):Int)=some _ from atI_nat rfl) ?_)))))
   refine bQ (aJ (aO (aG rfl (aG rfl ?_))))
   refine Mi (aV (Mp (JK ?_)))
   refine aG rfl (aN (eV hT3.spa (bB (x:=0) rfl ?_)))
   dsimp only
   have hT4:TS (bD M3 q (.lst ([DV.d (.int (s:Nat))].set 0 (DV.d (.int (((s:Nat):Int)-(if decide (((r:Nat):Int)≤((e.rnk:Nat):Int))=true then 1 else 0))))))) p q s':=⟨Lf (S:= [q]) hT3.src lO (by simpa using hT3.ne.symm),by
    rw [cY,es']
    rfl⟩
   have k4:=k3.trans ((lO (M:=M3) (a:=q) (o:= .lst ([DV.d (.int (s:Nat))].set 0 (DV.d (.int (((s:Nat):Int)-(if decide (((r:Nat):Int)≤((e.rnk:Nat):Int))=true then 1 else 0))))))).mono (T:= [p,q]) fun x hx=>by simp at hx;simp [hx])
   refine cJ (aO (aO (wJ ?_)))
   refine bQ (aJ (aG rfl (aJ (aG rfl (aJ (aN (aJ (aG rfl (aV ?_)))))))))
   refine⟨p,q,e,0,s',names,rfl,by omega,by omega,hT4,hok,mV,?_,fun l s2 M5 hw hs5 hT5 k5=> ?_⟩
   ·rw [if_neg (by omega)]
    split at hn
    ·omega
    ·have:=hs2 (by assumption)
     omega
   have ll:l.length≤1007:=Nat.le_trans (jT e s' 0 l (by omega) (by omega) hw) (T8 mV)
   refine oh (by rw [List.length_singleton];omega) (wJ (oh (by rw [List.length_append,List.length_singleton,List.length_singleton];omega) ?_))
   refine hR _ s2 _ ?_ (by omega) hT5 (k4.trans k5)
   obtain⟨k,c,h1,h2,rfl,h4⟩:=hw
   refine⟨k+1,c,fun _=>by omega,?_,?_,h4⟩
   ·rw [if_neg (by omega)]at h2
    split
    ·omega
    ·have:=hs2 (by assumption)
     omega
   ·rfl
  refine dN (tV (bU (aO (aG rfl (aG rfl ?_)))))
  show if decide (((e.rnk:Nat):Int)<((r:Nat):Int))=true then _ else _
  refine gq (fun h=>Zy M2 hT2 k2 (.inl (by omega))) (fun h=> ?_)
  refine pA (bU (aO (aO (aG rfl (aN (eV hT2.spa (bB (show atI _ ((0:Nat):Int)=some _ from atI_nat rfl) (aN ?_))))))))
  show if decide ((0:Int)<((s:Nat):Int))=true then _ else _
  refine gq (fun h2=> ?_) (fun h2=>hN _ _ ⟨rfl,by omega,hT2,k2⟩)
  refine bU (aO (bQ (aJ (aG rfl (aJ (aN (aV ?_)))))))
  refine⟨p,12,rfl,by decide,by decide,hT2.src,fun y M3 y0 y1 k3 s3=> ?_⟩
  have hT3:=hT2.pick k3 s3
  refine aN ?_
  show if decide (y=0)=true then _ else _
  exact gq (fun _=>Zy M3 hT3 (k2.trans (YG q k3)) (.inr (by omega))) (fun _=>hN _ _ ⟨rfl,by omega,hT3,k2.trans (YG q k3)⟩)
 rintro sl M3 ⟨rfl,hno,hT3,k3⟩
 have fin: ∀c,e.Core c→e.Wr s r c:=fun c h=>⟨0,c,fun z=>absurd z hno,Nat.zero_le _,rfl,h⟩
 rw [if_neg hno]at hn
 have hnr:r≤e.rnk:=by omega
 
 have qM: ∀D:fD,∀A B:bK,(e.opS∈(["int","name"]:List Str)→A D [some (.raw (.ref p)),some (.d e.d),some (.d (.int (r:Nat))),some (.raw (.ref q)),some (.d (.str e.opS)),some (.d (.int (e.rnk:Nat))),none,none,none] M3)→(e.opS∉(["int","name"]:List Str)→B D [some (.raw (.ref p)),some (.d e.d),some (.d (.int (r:Nat))),some (.raw (.ref q)),some (.d (.str e.opS)),some (.d (.int (e.rnk:Nat))),none,none,none] M3)→bZ (dB (aA (g2 (inD false)) (ao 4) (dTup (aj (dC (.d (.str "int"))) (aj (dC (.d (.str "name"))) aH))))) A B D [some (.raw (.ref p)),some (.d e.d),some (.d (.int (r:Nat))),some (.raw (.ref q)),some (.d (.str e.opS)),some (.d (.int (e.rnk:Nat))),none,none,none] M3:=fun D A B hA hB=>by
  refine dN (bU (aO (aG rfl (Es (HJ (l:= ["int","name"]) ?_)))))
  by_cases h:e.opS∈(["int","name"]:List Str)
  ·rw [decide_eq_true h]
   exact cG rfl (hA h)
  ·rw [decide_eq_false h]
   exact bW rfl (hB h)
 have test2: ∀D:fD,∀A B:bK,(e.opS= "if" →A D [some (.raw (.ref p)),some (.d e.d),some (.d (.int (r:Nat))),some (.raw (.ref q)),some (.d (.str e.opS)),some (.d (.int (e.rnk:Nat))),none,none,none] M3)→(e.opS≠ "if" →B D [some (.raw (.ref p)),some (.d e.d),some (.d (.int (r:Nat))),some (.raw (.ref q)),some (.d (.str e.opS)),some (.d (.int (e.rnk:Nat))),none,none,none] M3)→bZ (dB (aA (g2 eU) (ao 4) (dC (.d (.str "if"))))) A B D [some (.raw (.ref p)),some (.d e.d),some (.d (.int (r:Nat))),some (.raw (.ref q)),some (.d (.str e.opS)),some (.d (.int (e.rnk:Nat))),none,none,none] M3:=fun D A B hA hB=>by
  refine dN (bU (aO (aG rfl (aN (eq_str ?_)))))
  by_cases h:e.opS=("if" :Str)
  ·rw [decide_eq_true h]
   exact cG rfl (hA h)
  ·rw [decide_eq_false h]
   exact bW rfl (hB h)
 have vI: ∀D:fD,∀A B:bK,(e.opS∈(["min","max"]:List Str)→A D [some (.raw (.ref p)),some (.d e.d),some (.d (.int (r:Nat))),some (.raw (.ref q)),some (.d (.str e.opS)),some (.d (.int (e.rnk:Nat))),none,none,none] M3)→(e.opS∉(["min","max"]:List Str)→B D [some (.raw (.ref p)),some (.d e.d),some (.d (.int (r:Nat))),some (.raw (.ref q)),some (.d (.str e.opS)),some (.d (.int (e.rnk:Nat))),none,none,none] M3)→bZ (dB (aA (g2 (inD false)) (ao 4) (dTup (aj (dC (.d (.str "min"))) (aj (dC (.d (.str "max"))) aH))))) A B D [some (.raw (.ref p)),some (.d e.d),some (.d (.int (r:Nat))),some (.raw (.ref q)),some (.d (.str e.opS)),some (.d (.int (e.rnk:Nat))),none,none,none] M3:=fun D A B hA hB=>by
  refine dN (bU (aO (aG rfl (Es (HJ (l:= ["min","max"]) ?_)))))
  by_cases h:e.opS∈(["min","max"]:List Str)
  ·rw [decide_eq_true h]
   exact cG rfl (hA h)
  ·rw [decide_eq_false h]
   exact bW rfl (hB h)
 have vJ: ∀D:fD,∀A B:bK,(e.opS∈(["not","neg"]:List Str)→A D [some (.raw (.ref p)),some (.d e.d),some (.d (.int (r:Nat))),some (.raw (.ref q)),some (.d (.str e.opS)),some (.d (.int (e.rnk:Nat))),none,none,none] M3)→(e.opS∉(["not","neg"]:List Str)→B D [some (.raw (.ref p)),some (.d e.d),some (.d (.int (r:Nat))),some (.raw (.ref q)),some (.d (.str e.opS)),some (.d (.int (e.rnk:Nat))),none,none,none] M3)→bZ (dB (aA (g2 (inD false)) (ao 4) (dTup (aj (dC (.d (.str "not"))) (aj (dC (.d (.str "neg"))) aH))))) A B D [some (.raw (.ref p)),some (.d e.d),some (.d (.int (r:Nat))),some (.raw (.ref q)),some (.d (.str e.opS)),some (.d (.int (e.rnk:Nat))),none,none,none] M3:=fun D A B hA hB=>by
  refine dN (bU (aO (aG rfl (Es (HJ (l:= ["not","neg"]) ?_)))))
  by_cases h:e.opS∈(["not","neg"]:List Str)
  ·rw [decide_eq_true h]
   exact cG rfl (hA h)
  ·rw [decide_eq_false h]
   exact bW rfl (hB h)
 match e,hok,mV,hn,hR,hT3,hno,fin,hnr,wl,qM,test2,vI,vJ with
 | .int i,hok,mV,hn,hR,hT3,hno,fin,hnr,wl,qM,test2,vI,vJ=>
  refine sq (qM _ _ _ (fun _=> ?_) fun h=>absurd (show("int" :Str)∈(["int","name"]:List Str) by decide+kernel) h)
  have hok:0≤i∧i<10^6:=hok
  refine cJ (BR (toString i) (fun R hR=> ?_) ?_)
  ·refine bQ (aJ (aO (aG rfl (aN (bB (x:= .int i) rfl (aV ⟨?_,hR⟩))))))
   exact Ko hok.1 (by omega)
  ·exact hR _ s _ (fin _ rfl) (Nat.le_refl _) hT3 k3
 | .name x,hok,mV,hn,hR,hT3,hno,fin,hnr,wl,qM,test2,vI,vJ=>
  refine sq (qM _ _ _ (fun _=> ?_) fun h=>absurd (show("name" :Str)∈(["int","name"]:List Str) by decide+kernel) h)
  refine cJ (BR x (fun R hR=> ?_) ?_)
  ·exact bQ (aJ (aO (aG rfl (aN (bB (x:= .str x) rfl (aV hR))))))
  ·exact hR _ s _ (fin _ rfl) (Nat.le_refl _) hT3 k3
 | .ite a b c,hok,mV,hn,hR,hT3,hno,fin,hnr,wl,qM,test2,vI,vJ=>
  refine sq (qM _ _ _ (fun h=>absurd h (show("if" :Str)∉(["int","name"]:List Str) by decide+kernel)) fun _=> ?_)
  refine sq (test2 _ _ _ (fun _=> ?_) fun h=>absurd rfl h)
  have hok:a.okS names∧b.okS names∧c.okS names:=hok
  have mV:max a.dep (max b.dep c.dep)+1≤4:=mV
  have hn:5*(max a.dep (max b.dep c.dep)+1)+s+0<n+1:=hn
  refine sq (bL ?_)
  refine Xb (es:= [a,b,c]) (names:=names) (fun RR h=>by unfold o_ fM eG;exact aG rfl h) hs hT3 (fun e he=> ?_) (Nat.le_refl 3) fun ls s' M4 hll hw hs4 hT4 k4=> ?_
  ·simp only [List.mem_cons,List.not_mem_nil,or_false]at he
   rcases he with rfl|rfl|rfl
   ·exact⟨hok.1,by omega,by omega⟩
   ·exact⟨hok.2.1,by omega,by omega⟩
   ·exact⟨hok.2.2,by omega,by omega⟩
  obtain⟨la,lb,lc,rfl⟩: ∃la lb lc,ls= [la,lb,lc]:=by
   match ls,hll with
   | [x,y,z],_=>exact⟨x,y,z,rfl⟩
  have wa:=hw 0 a la rfl rfl
  have wb:=hw 1 b lb rfl rfl
  have wc:=hw 2 c lc rfl rfl
  have ha:=Nat.le_trans (jT a 3 0 la (Nat.le_refl _) (by omega) wa) (uM (by omega))
  have hb:=Nat.le_trans (jT b 3 0 lb (Nat.le_refl _) (by omega) wb) (uM (by omega))
  have hc:=Nat.le_trans (jT c 3 0 lc (Nat.le_refl _) (by omega) wc) (uM (by omega))
  dsimp only
  refine cJ (aO (aO (aO (aO (aO (wJ (aO (aG rfl (aN (bB (x:= .list (la.map PyData.str)) rfl ?_))))))))))
  refine oh (by simp only [List.length_append,List.length_singleton];omega) (wJ ?_)
  refine oh (by simp only [List.length_append,List.length_singleton];omega) ?_
  refine aO (aG rfl (aN (bB (x:= .list (lb.map PyData.str)) rfl ?_)))
  refine oh (by simp only [List.length_append,List.length_singleton];omega) (wJ ?_)
  refine oh (by simp only [List.length_append,List.length_singleton];omega) ?_
  refine aO (aG rfl (aN (bB (x:= .list (lc.map PyData.str)) rfl ?_)))
  refine oh (by simp only [List.length_append,List.length_singleton];omega) ?_
  exact hR _ s' _ (fin _ ⟨la,lb,lc,wa,wb,wc,rfl⟩) hs4 hT4 (k3.trans k4)
 | .un o a,hok,mV,hn,hR,hT3,hno,fin,hnr,wl,qM,test2,vI,vJ=>
  have ho:o.s∉(["int","name"]:List Str)∧o.s≠("if" :Str)∧o.s∉(["min","max"]:List Str)∧o.s∈(["not","neg"]:List Str):=by cases o<;>decide+kernel
  refine sq (qM _ _ _ (fun h=>absurd h ho.1) fun _=> ?_)
  refine sq (test2 _ _ _ (fun h=>absurd h ho.2.1) fun _=> ?_)
  refine sq (vI _ _ _ (fun h=>absurd h ho.2.2.1) fun _=> ?_)
  refine sq (vJ _ _ _ (fun _=> ?_) fun h=>absurd ho.2.2.2 h)
  have hok:a.okS names:=hok
  have mV:a.dep+1≤4:=mV
  have hn:5*(a.dep+1)+s+0<n+1:=hn
  dsimp only
  obtain⟨y,hy,rk,hrk⟩: ∃(y:Str),(if decide (o.s=("not" :Str))=true then("not" :Str)else "-")=y∧ ∃rk,(Ex.un o a).rnk=rk∧rk≤8∧ ∀la,Pk a a.Core 3 rk la→(Ex.un o a).Core (l1 y++la):=by
   cases o with
   |not=>exact⟨"not",rfl,3,rfl,by decide,fun la h=>⟨la,h,rfl⟩⟩
   |neg=>exact⟨"-",rfl,7,rfl,by decide,fun la h=>⟨la,h,rfl⟩⟩
  refine cJ (aO (BR y (fun R hR=> ?_) ?_))
  ·unfold jY
   refine bU (aO (aG rfl (aN (eq_str ?_))))
   dsimp only
   show if decide (o.s=("not" :Str))=true then _ else _
   rw [←hy]at hR
   split
   ·rename_i h
    rw [if_pos h]at hR
    exact aN hR
   ·rename_i h
    rw [if_neg h]at hR
    exact aN hR
  ·refine bQ (aJ (aG rfl (aJ (aO (aG rfl (aN (bB (x:=a.d) rfl (aJ (aG rfl (aJ (aG rfl (aV ?_))))))))))))
   refine⟨p,q,a,(Ex.un o a).rnk,s,names,rfl,by omega,hs,hT3,hok,by omega,?_,fun la s' M4 hwa hs4 hT4 k4=> ?_⟩
   ·split<;>omega
   ·have ha:=Nat.le_trans (jT a s (Ex.un o a).rnk la (by omega) (by omega) (hwa.mono (Nat.le_refl _))) (uM (by omega))
    refine oh (by rw [List.length_singleton];omega) ?_
    refine hR _ s' _ (fin _ (hrk.2.2 la ?_)) hs4 hT4 (k3.trans k4)
    rw [←hrk.1]
    exact hwa.mono hs
 | .bin o a b,hok,mV,hn,hR,hT3,hno,fin,hnr,wl,qM,test2,vI,vJ=>
  have ho:=ae4 o
  have hok:a.okS names∧b.okS names:=hok
  have mV:max a.dep b.dep+1≤4:=mV
  have hn:5*(max a.dep b.dep+1)+s+0<n+1:=hn
  refine sq (qM _ _ _ (fun h=>absurd h ho.1) fun _=> ?_)
  refine sq (test2 _ _ _ (fun h=>absurd h ho.2.1) fun _=> ?_)
  refine sq (vI _ _ _ (fun h=> ?_) fun h=> ?_)
  ·have hm:=ho.2.2.1.mp h
   refine sq (bL ?_)
   refine Xb (es:= [a,b]) (names:=names) (fun RR h=>by unfold o_ fM eG;exact aG rfl h) hs hT3 (fun e he=> ?_) (by show 2≤3;omega) fun ls s' M4 hll hw hs4 hT4 k4=> ?_
   ·simp only [List.mem_cons,List.not_mem_nil,or_false]at he
    rcases he with rfl|rfl
    ·exact⟨hok.1,by omega,by omega⟩
    ·exact⟨hok.2,by omega,by omega⟩
   obtain⟨la,lb,rfl⟩: ∃la lb,ls= [la,lb]:=by
    match ls,hll with
    | [x,y],_=>exact⟨x,y,rfl⟩
   have wa:=hw 0 a la rfl rfl
   have wb:=hw 1 b lb rfl rfl
   have ha:=Nat.le_trans (jT a 3 0 la (Nat.le_refl _) (by omega) wa) (uM (by omega))
   have hb:=Nat.le_trans (jT b 3 0 lb (Nat.le_refl _) (by omega) wb) (uM (by omega))
   dsimp only
   refine cJ (aO (aO (aO (aO ?_))))
   refine aJ (aG rfl (aJ (aN (aV (bB (x:=(l1 o.s++l1 "(").map PyData.str) rfl ⟨Nat.le_of_ble_eq_true rfl,?_⟩)))))
   refine aO (aG rfl (aN (bB (x:= .list (la.map PyData.str)) rfl ?_)))
   refine oh (by simp only [List.length_append,List.length_singleton];omega) (wJ ?_)
   refine oh (by simp only [List.length_append,List.length_singleton];omega) ?_
   refine aO (aG rfl (aN (bB (x:= .list (lb.map PyData.str)) rfl ?_)))
   refine oh (by simp only [List.length_append,List.length_singleton];omega) (wJ ?_)
   refine oh (by simp only [List.length_append,List.length_singleton];omega) ?_
   refine hR _ s' _ (fin _ ?_) hs4 hT4 (k3.trans k4)
   unfold Ex.Core
   rw [if_pos hm]
   exact⟨la,lb,wa,wb,rfl⟩
  ·have hm:v9 o=false:=by
    cases q:v9 o with
    |false=>rfl
    |true=>exact absurd (ho.2.2.1.mpr q) h
   have hrk:=W0 hm
   refine sq (vJ _ _ _ (fun h=>absurd h ho.2.2.2) fun _=> ?_)
   have er:(Ex.bin o a b).rnk=qG o:=rfl
   have elf:(((Ex.bin o a b).rnk:Nat):Int)+(if decide ((((Ex.bin o a b).rnk:Nat):Int)=4)=true then 1 else 0)=((rA o:Nat):Int):=by
    unfold rA
    rw [er]
    by_cases q:qG o=4
    ·rw [if_pos q,if_pos (decide_eq_true (by omega))]
     omega
    ·rw [if_neg q,if_neg (by rw [decide_eq_true_iff];omega)]
     omega
   have hlf:rA o≤6:=by unfold rA;split<;>omega
   refine aY (fun sl M4=> ∃la s',sl= [some (.raw (.ref p)),some (.d (Ex.bin o a b).d),some (.d (.int (r:Nat))),some (.raw (.ref q)),some (.d (.str (Ex.bin o a b).opS)),some (.d (.int ((Ex.bin o a b).rnk:Nat))),none,none,some (.d (.list (la.map PyData.str)))]∧a.Wr s (rA o) la∧s'≤s∧TS M4 p q s'∧MK [p,q] M3 M4) (fun N hN=> ?_) ?_
   ·refine bL (bQ (aJ (aG rfl (aJ (aO (aG rfl (aN (bB (x:=a.d) rfl ?_))))))))
    refine aJ (aO (aG rfl ?_))
    refine bQ (aJ (aO (aG rfl (aN (eqI (aV (Mp (jE (aJ (aG rfl (aV ?_)))))))))))
    rw [elf]
    refine⟨p,q,a,rA o,s,names,rfl,by omega,hs,hT3,hok.1,by omega,?_,fun la s' M4 hwa hs4 hT4 k4=>hN _ _ ⟨la,s',rfl,hwa,hs4,hT4,k4⟩⟩
    split<;>omega
   rintro sl M4 ⟨la,s',rfl,hwa,hs4,hT4,k4⟩
   refine cJ (aO (aO (aG rfl (BR o.s (fun R hR=>aG rfl hR) ?_))))
   have ha:=Nat.le_trans (jT a s (rA o) la (by omega) (by omega) hwa) (uM (by omega))
   refine oh (by rw [List.length_singleton];omega) ?_
   refine bQ (aJ (aG rfl (aJ (aO (aG rfl (aN (bB (x:=b.d) rfl ?_)))))))
   refine aJ (aO (aG rfl (aN (jE (aJ (aG rfl (aV ?_)))))))
   refine⟨p,q,b,qG o+1,s',names,rfl,by omega,by omega,hT4,hok.2,by omega,?_,fun lb s2 M5 hwb hs5 hT5 k5=> ?_⟩
   ·split<;>omega
   have hb:=Nat.le_trans (jT b s' (qG o+1) lb (by omega) (by omega) hwb) (uM (by omega))
   refine oh (by simp only [List.length_append,List.length_singleton];omega) ?_
   refine hR _ s2 _ (fin _ ?_) (by omega) hT5 ((k3.trans k4).trans k5)
   unfold Ex.Core
   rw [if_neg (by rw [hm];decide)]
   exact⟨la,lb,hwa.mono hs,hwb.mono (by omega),rfl⟩
theorem afa (n:Nat) {P:Program} {w:World} {K:PySem.W.Frag} {mg:Str→Option Value} {base:Heap} {dV:Value} {f:Addr} {fd:FuncData} (F:dw K "_law_tokens_of" "_law_tokens_of" qp dV f fd) (Mu:Def P w K mg base "_law_rank" 1 z_) (fX:Def P w K mg base "_law_pick" 2 h_) (rO:Def P w K mg base "_law_tokens_of" (3+n) (lF n)) (oR:mg "int" =none) (Mv:mg "str" =none):bM P w K mg base CX0 (3+n+1) f fd ["source","expression","rank","spare"] (dO K (lF (n+1))):=
 F.data uP (ahd (n+1)) (Zu n) (fun cdv A outer s H E hg hr=>
  (aR (bx (i:=4) uP.nd rfl (by first|exact Or.inl rfl|exact Or.inr rfl) (cH (au 1) aP))
   (aR (bx (i:=5) uP.nd rfl (by first|exact Or.inl rfl|exact Or.inr rfl) (Mu.de hg (hr.mono (by omega)) (by rfl) (aq (au 1) aM)))
   (aR (cP (jU (qT (bJ (qZ hr) (au 5) (au 2) (nomark _)) (tD (jU (oX (bJ rM (cH (au 3) aP) aP (nomark _)) (qu (bJ (gj hr) (fX.de hg (hr.mono (by omega)) (by rfl) (aq (au 0) (aq aP aM))) aP (nomark _)))))))) (aR (pD (aU zj (cH (au 3) aP) (wD Dc (by rfl) oR (by decide+kernel) (aq (tX Zd (au 5) (au 2) (nomark _)) aM))) (au 3) aP)
   (aW (b_ (aU bH (aU bH (dZ (aq aK aM)) (rO.de hg (hr.mono (Nat.le_refl _)) (by rfl) (aq (au 0) (aq (au 1) (aq aP (aq (au 3) aM)))))) (dZ (aq aK aM)))))) cW)
   (aR (cP (bJ (jP hr) (au 4) (dG (aq aK (aq aK aM))) rfl) (aW (b_ (dZ (aq (wD adF (by rfl) Mv (by decide+kernel) (aq (cH (au 1) aP) aM)) aM)))) cW)
   (aR (cP (bJ (gj hr) (au 4) aK (nomark _)) (aR (Kr (i:=6) (own:= [("part",7)]) rfl uP.nd rfl rfl (sw_true rfl rfl rfl (by decide+kernel)) (v8 (jo (au 1) (gY aP) m_)) (blkOk_by (own:= [("part",7)]) (N:=Gh) (sc:=defScope qp) (by decide+kernel)) (fun _ _ _ _ _=>(jf (i:=7) uP.nd rfl (by first|exact Or.inl rfl|exact Or.inr rfl))) (fun _ _ _ _ _=>Bc) (fun _ _ _ _ _=>(rO.de hg (hr.mono (Nat.le_refl _)) (by rfl) (aq (au 0) (aq (au 7) (aq aP (aq (au 3) aM)))))) (by decide))
   (aW (b_ (aU bH (aU bH (aU bH (aU bH (aU bH (dZ (aq aK aM)) (cH (au 6) aP)) (dZ (aq aK aM))) (cH (au 6) aP)) (dZ (aq aK aM))) (cH (au 6) aP))))) cW)
   (aR (cP (bJ (jP hr) (au 4) (dG (aq aK (aq aK aM))) rfl) (aR (Kr (i:=6) (own:= [("part",7)]) rfl uP.nd rfl rfl (sw_true rfl rfl rfl (by decide+kernel)) (v8 (jo (au 1) (gY aP) m_)) (blkOk_by (own:= [("part",7)]) (N:=Gh) (sc:=defScope qp) (by decide+kernel)) (fun _ _ _ _ _=>(jf (i:=7) uP.nd rfl (by first|exact Or.inl rfl|exact Or.inr rfl))) (fun _ _ _ _ _=>Bc) (fun _ _ _ _ _=>(rO.de hg (hr.mono (Nat.le_refl _)) (by rfl) (aq (au 0) (aq (au 7) (aq aP (aq (au 3) aM)))))) (by decide))
   (aW (b_ (aU bH (aU bH (aU bH (aU bH (dZ (aq (au 4) (aq aK aM))) (cH (au 6) aP)) (dZ (aq aK aM))) (cH (au 6) aP)) (dZ (aq aK aM)))))) cW)
   (aR (cP (bJ (jP hr) (au 4) (dG (aq aK (aq aK aM))) rfl) (aW (b_ (aU bH (dZ (aq (n_ (bJ (gj hr) (au 4) aK (nomark _)) aK aK) aM)) (rO.de hg (hr.mono (Nat.le_refl _)) (by rfl) (aq (au 0) (aq (cH (au 1) aP) (aq (au 5) (aq (au 3) aM)))))))) cW)
   (aR (bx (i:=8) uP.nd rfl (by first|exact Or.inl rfl|exact Or.inr rfl) (rO.de hg (hr.mono (Nat.le_refl _)) (by rfl) (aq (au 0) (aq (cH (au 1) aP) (aq (aU bH (au 5) (wD Dc (by rfl) oR (by decide+kernel) (aq (tX (gj hr) (au 5) aP (nomark _)) aM))) (aq (au 3) aM))))))
   (aW (b_ (aU bH (aU bH (au 8) (dZ (aq (au 4) aM))) (rO.de hg (hr.mono (Nat.le_refl _)) (by rfl) (aq (au 0) (aq (cH (au 1) aP) (aq (aU bH (au 5) aP) (aq (au 3) aM))))))))))))))))) (agL n)
abbrev rK:Stmt:=topS 41
abbrev Kl:List Str:= ["source","names","depth","way","parts","k","operators"]
theorem Dg:FnScope Kl ["source","names","depth"] (defScope rK):=⟨rfl,rfl,rfl,by decide+kernel,rfl,by decide+kernel,by decide+kernel⟩
def pZ (n:Nat):dM:=fun xs M R=> ∃(p:Addr) (names:List Str) (k:Nat),xs= [.raw (.ref p),.d (.list (names.map PyData.str)),.d (.int (k:Nat))]∧k<n∧names≠ []∧names.length≤1000∧dH M p∧ ∀(e:Ex) M',e.okS names→e.dep≤k→Keeps p M M'→dH M' p→R (.d e.d) M'
theorem aiq: ∀xs M R,¬pZ 0 xs M R:=by
 rintro xs M R ⟨p,names,k,rfl,hk,_⟩
 omega
def aeg:List Op:= [.eq,.ne,.lt,.le,.gt,.ge,.add,.sub,.mul,.mod,.and,.or,.min,.max,.add,.sub]
theorem afc {ys:List PyData} {Q:PyData→Prop} (h:ys.length=3) (hq: ∀y∈ys,Q y): ∃a b c,ys= [a,b,c]∧Q a∧Q b∧Q c:=by
 match ys,h with
 | [a,b,c],_=>exact⟨a,b,c,rfl,hq a (by simp),hq b (by simp),hq c (by simp)⟩
theorem aeM {ys:List PyData} {Q:PyData→Prop} (h:ys.length=2) (hq: ∀y∈ys,Q y): ∃a b,ys= [a,b]∧Q a∧Q b:=by
 match ys,h with
 | [a,b],_=>exact⟨a,b,rfl,hq a (by simp),hq b (by simp)⟩
def Yo (n:Nat):bK:=(aQ (aZ 3 (jY (dB (aA (g2 (jX fun i j=>decide (j<i))) (ao 2) (dC (.d (.int 0))))) (dCall h_ (aj (ao 0) (aj (dC (.d (.int 12))) aH))) (dCall h_ (aj (ao 0) (aj (dC (.d (.int 2))) aH)))))
 (aQ (bZ (dB (aA (g2 eU) (ao 3) (dC (.d (.int 0))))) (bO (dTup (aj (dC (.d (.str "int"))) (aj (dCall jR (aj (ao 0) (aj (cU (aj (dC (.d (.int 0))) (aj (dC (.d (.int 1))) (aj (dC (.d (.int 2))) (aj (dC (.d (.int 3))) (aj (dC (.d (.int 7))) (aj (dC (.d (.int 10))) (aj (dC (.d (.int 999999))) aH)))))))) aH))) aH)))) cV)
 (aQ (bZ (dB (aA (g2 j8) (ao 3) (dC (.d (.int 3))))) (bO (dTup (aj (dC (.d (.str "name"))) (aj (dCall jR (aj (ao 0) (aj (ao 1) aH))) aH)))) cV)
 (aQ (aZ 4 (xY (wV (aj (jY (dB (aA (g2 eU) (ao 3) (dC (.d (.int 3))))) (dC (.d (.int 3))) (dC (.d (.int 2)))) aH)) (iT 5) qX (dCall (pZ n) (aj (ao 0) (aj (ao 1) (aj (aA (g2 (intOp (· - ·))) (ao 2) (dC (.d (.int 1)))) aH)))) [5]))
 (aQ (bZ (dB (aA (g2 eU) (ao 3) (dC (.d (.int 3))))) (bO (dTup (aj (dC (.d (.str "if"))) (aj (aA bf (ao 4) (dC (.d (.int 0)))) (aj (aA bf (ao 4) (dC (.d (.int 1)))) (aj (aA bf (ao 4) (dC (.d (.int 2)))) aH)))))) cV)
 (aQ (bZ (dB (aA (g2 eU) (ao 3) (dC (.d (.int 4))))) (bO (dTup (aj (dCall jR (aj (ao 0) (aj (cU (aj (dC (.d (.str "not"))) (aj (dC (.d (.str "neg"))) aH))) aH))) (aj (aA bf (ao 4) (dC (.d (.int 0)))) aH)))) cV)
 (aQ (aZ 6 (cU (aj (dC (.d (.str "="))) (aj (dC (.d (.str "!="))) (aj (dC (.d (.str "<"))) (aj (dC (.d (.str "<="))) (aj (dC (.d (.str ">"))) (aj (dC (.d (.str ">="))) (aj (dC (.d (.str "+"))) (aj (dC (.d (.str "-"))) (aj (dC (.d (.str "*"))) (aj (dC (.d (.str "mod"))) (aj (dC (.d (.str "and"))) (aj (dC (.d (.str "or"))) (aj (dC (.d (.str "min"))) (aj (dC (.d (.str "max"))) (aj (dC (.d (.str "+"))) (aj (dC (.d (.str "-"))) aH))))))))))))))))))
 (bO (dTup (aj (dCall jR (aj (ao 0) (aj (ao 6) aH))) (aj (aA bf (ao 4) (dC (.d (.int 0)))) (aj (aA bf (ao 4) (dC (.d (.int 1)))) aH))))))))))))
theorem ab_: ∀n xs M R,pZ n xs M R→xs.length=3:=by
 rintro n xs M R ⟨p,names,k,rfl,_⟩
 rfl
theorem ae1: ∀n xs M R,pZ (n+1) xs M R→Yo n {nx:=fun _ M'=>R (.d .none) M',rt:=R} (dD Kl xs) M:=by
 rintro n xs M R ⟨p,names,k,rfl,hk,hne,hnl,hS,h⟩
 refine aY (fun sl M1=> ∃(way:Int),sl= [some (.raw (.ref p)),some (.d (.list (names.map PyData.str))),some (.d (.int (k:Nat))),some (.d (.int way)),none,none,none]∧0≤way∧(k=0→way<2)∧Keeps p M M1∧dH M1 p) (fun N hN=> ?_) ?_
 ·refine gq (fun hc=> ?_) (fun hc=> ?_)
  ·exact⟨p,12,rfl,by decide,by decide,hS,fun r M1 r0 r1 k1 s1=>hN _ _ ⟨r,rfl,r0,fun e=>by omega,k1,s1⟩⟩
  ·exact⟨p,2,rfl,by decide,by decide,hS,fun r M1 r0 r1 k1 s1=>hN _ _ ⟨r,rfl,r0,fun e=>by omega,k1,s1⟩⟩
 rintro sl M1 ⟨way,rfl,w0,wk,k1,s1⟩
 refine sq (gq (fun hw=> ?_) (fun hw=> ?_))
 ·refine dR ?_
  refine⟨p,_,rfl,by decide,by decide,s1,fun d M2 hd k2 s2=> ?_⟩
  obtain⟨i,rfl,i0,i1⟩: ∃i:Int,d= .int i∧0≤i∧i<10^6:=by
   simp only [List.mem_cons,List.not_mem_nil,or_false]at hd
   rcases hd with rfl|rfl|rfl|rfl|rfl|rfl|rfl<;>exact⟨_,rfl,by decide,by decide⟩
  exact dR (h (.int i) M2 ⟨i0,i1⟩ (Nat.zero_le _) (k1.trans k2) s2)
 refine sq (gq (fun hw3=> ?_) (fun hw3=> ?_))
 ·refine⟨p,_,rfl,?_,?_,s1,fun d M2 hd k2 s2=> ?_⟩
  ·rw [List.length_map]
   exact List.length_pos_iff.mpr hne
  ·rw [List.length_map]
   omega
  obtain⟨x,hx,rfl⟩:=List.mem_map.mp hd
  exact dR (h (.name x) M2 hx (Nat.zero_le _) (k1.trans k2) s2)
 have hk0:0<k:=by
  rcases Nat.eq_zero_or_pos k with e|e
  ·have:=wk e
   omega
  ·exact e
 obtain⟨m,rfl⟩: ∃m,k=m+1:=⟨k-1,by omega⟩
 have ek:(((m+1:Nat):Int)-1)=(m:Nat):=by omega
 refine aY (fun sl M2=> ∃(ys:List PyData) (t5:Option DV),sl= [some (.raw (.ref p)),some (.d (.list (names.map PyData.str))),some (.d (.int ((m+1:Nat):Int))),some (.d (.int way)),some (.d (.list ys)),t5,none]∧ys.length=(if way=3 then 3 else 2)∧(∀y∈ys,∃e:Ex,y=e.d∧e.okS names∧e.dep≤m)∧Keeps p M M2∧dH M2 p) (fun N hN=> ?_) ?_
 ·have body: ∀c:Nat,c≤3→c=(if way=3 then 3 else 2)→wV (fun _ M R=>R [.d (.int (c:Nat))] M) [some (.raw (.ref p)),some (.d (.list (names.map PyData.str))),some (.d (.int ((m+1:Nat):Int))),some (.d (.int way)),none,none,none] M1 fun items M2=> ∀q,M2 q=none→ ∃P:Nat→Mem→Prop,P 0 (bD M2 q (.lst []))∧
   (∀i x M',items[i]? =some x→P i M'→iT 5 x (oH [some (.raw (.ref p)),some (.d (.list (names.map PyData.str))),some (.d (.int ((m+1:Nat):Int))),some (.d (.int way)),none,none,none] [5]) M' fun sl2 M3=>qX sl2 M3 fun k M4=>if k=true then dCall (pZ n) (aj (ao 0) (aj (ao 1) (aj (aA (g2 (DL.intOp (· - ·))) (ao 2) (dC (.d (.int 1)))) aH))) sl2 M4 fun y M5=>getL M5 q (fun acc=>acc.length<sizeLine∧P (i+1) (bD M5 q (.lst (acc++ [y]))))else P (i+1) M4)∧
   ∀M',P items.length M'→getL M' q fun xs=>fK (jQ xs) fun ds=>N (List.set [some (.raw (.ref p)),some (.d (.list (names.map PyData.str))),some (.d (.int ((m+1:Nat):Int))),some (.d (.int way)),none,none,none] 4 (some (.d (.list ds)))) (cZ M' q):=by
   intro c hc ec
   refine⟨⟨by omega,by omega⟩,?_⟩
   refine aef (items:=qO 0 ((c:Nat):Int).toNat) (af9 p) (fun y=> ∃e:Ex,y=e.d∧e.okS names∧e.dep≤m) (by rw [Hz];omega) s1 ?_ ?_
   ·intro x hx M' N' Z hS' hN'
    refine⟨p,names,m,?_,by omega,hne,hnl,hS',fun e M2 eo ed k2 s2=>hN' _ _ ⟨e,rfl,eo,ed⟩ k2 s2⟩
    show [_,_,DV.d (.int (((m+1:Nat):Int)-1))]=_
    rw [ek]
   ·intro ys M2 hyl hy k2 s2
    rw [Hz]at hyl
    exact hN _ _ ⟨ys,_,rfl,by rw [hyl,←ec];omega,hy,k1.trans k2,s2⟩
  refine gq (fun h3=> ?_) (fun h3=> ?_)
  ·exact body 3 (by decide) (if_pos h3).symm
  ·exact body 2 (by decide) (if_neg h3).symm
 rintro sl M2 ⟨ys,t5,rfl,hyl,hy,k2,s2⟩
 refine sq (gq (fun h3=> ?_) (fun h3=> ?_))
 ·rw [if_pos h3]at hyl
  obtain⟨a,b,c,rfl,⟨ea,rfl,oa,da⟩,⟨eb,rfl,ob,db⟩,⟨ec,rfl,oc,dc⟩⟩:=afc hyl hy
  exact bB (show atI _ ((0:Nat):Int)=some _ from atI_nat rfl) (bB (show atI _ ((1:Nat):Int)=some _ from atI_nat rfl) (bB (show atI _ ((2:Nat):Int)=some _ from atI_nat rfl) (dR (h (.ite ea eb ec) M2 ⟨oa,ob,oc⟩ (by show max ea.dep (max eb.dep ec.dep)+1≤m+1;omega) k2 s2))))
 ·rw [if_neg h3]at hyl
  obtain⟨a,b,rfl,⟨ea,rfl,oa,da⟩,⟨eb,rfl,ob,db⟩⟩:=aeM hyl hy
  refine sq (gq (fun h4=> ?_) (fun h4=> ?_))
  ·refine dR ?_
   refine⟨p,_,rfl,by decide,by decide,s2,fun d M3 hd k3 s3=>bB (show atI _ ((0:Nat):Int)=some _ from atI_nat rfl) ?_⟩
   obtain⟨o,rfl⟩: ∃o:Un,d= .str o.s:=by
    simp only [List.mem_cons,List.not_mem_nil,or_false]at hd
    rcases hd with rfl|rfl
    ·exact⟨.not,rfl⟩
    ·exact⟨.neg,rfl⟩
   exact dR (h (.un o ea) M3 oa (by show ea.dep+1≤m+1;omega) (k2.trans k3) s3)
  ·refine sq (dR ?_)
   refine⟨p,_,rfl,by decide,by decide,s2,fun d M3 hd k3 s3=>bB (show atI _ ((0:Nat):Int)=some _ from atI_nat rfl) (bB (show atI _ ((1:Nat):Int)=some _ from atI_nat rfl) ?_)⟩
   obtain⟨o,rfl⟩: ∃o:Op,d= .str o.s:=by
    have hd:d∈aeg.map fun o=>PyData.str o.s:=hd
    obtain⟨o,_,rfl⟩:=List.mem_map.mp hd
    exact⟨o,rfl⟩
   exact dR (h (.bin o ea eb) M3 ⟨oa,ob⟩ (by show max ea.dep eb.dep+1≤m+1;omega) (k2.trans k3) s3)
theorem adl (n:Nat) {P:Program} {w:World} {K:PySem.W.Frag} {mg:Str→Option Value} {base:Heap} {dV:Value} {f:Addr} {fd:FuncData} (F:dw K "_law_expression" "_law_expression" rK dV f fd) (fX:Def P w K mg base "_law_pick" 2 h_) (jM:Def P w K mg base "_law_choose" 3 jR) (Du:Def P w K mg base "_law_expression" (4+n) (pZ n)) (rN:mg "range" =none):bM P w K mg base CX0 (4+n+1) f fd ["source","names","depth"] (dO K (pZ (n+1))):=
 F.data Dg (ab_ (n+1)) (Yo n) (fun cdv A outer s H E hg hr=>
  (aR (bx (i:=3) Dg.nd rfl (by first|exact Or.inl rfl|exact Or.inr rfl) (n_ (bJ rM (au 2) aP (nomark _)) (fX.de hg (hr.mono (by omega)) (by rfl) (aq (au 0) (aq aP aM))) (fX.de hg (hr.mono (by omega)) (by rfl) (aq (au 0) (aq aP aM)))))
   (aR (cP (bJ (gj hr) (au 3) aP (nomark _)) (aW (b_ (dG (aq aK (aq (jM.de hg (hr.mono (by omega)) (by rfl) (aq (au 0) (aq (dZ (aq aP (aq aP (aq aP (aq aP (aq aP (aq aP (aq aP aM)))))))) aM))) aM))))) cW)
   (aR (cP (bJ (qZ hr) (au 3) aP (nomark _)) (aW (b_ (dG (aq aK (aq (jM.de hg (hr.mono (by omega)) (by rfl) (aq (au 0) (aq (au 1) aM))) aM))))) cW)
   (aR (Kr (i:=4) (own:= [("k",5)]) rfl Dg.nd rfl rfl (sw_true rfl rfl rfl (by decide+kernel)) (Gm (by rfl) rN (aq (n_ (bJ (gj hr) (au 3) aP (nomark _)) aP aP) aM)) (blkOk_by (own:= [("k",5)]) (N:=Kl) (sc:=defScope rK) (by decide+kernel)) (fun _ _ _ _ _=>(jf (i:=5) Dg.nd rfl (by first|exact Or.inl rfl|exact Or.inr rfl))) (fun _ _ _ _ _=>Bc) (fun _ _ _ _ _=>(Du.de hg (hr.mono (Nat.le_refl _)) (by rfl) (aq (au 0) (aq (au 1) (aq (aU zj (au 2) aP) aM))))) (by decide))
   (aR (cP (bJ (gj hr) (au 3) aP (nomark _)) (aW (b_ (dG (aq aK (aq (cH (au 4) aP) (aq (cH (au 4) aP) (aq (cH (au 4) aP) aM))))))) cW)
   (aR (cP (bJ (gj hr) (au 3) aP (nomark _)) (aW (b_ (dG (aq (jM.de hg (hr.mono (by omega)) (by rfl) (aq (au 0) (aq (dZ (aq aK (aq aK aM))) aM))) (aq (cH (au 4) aP) aM))))) cW)
   (aR (bx (i:=6) Dg.nd rfl (by first|exact Or.inl rfl|exact Or.inr rfl) (dZ (aq aK (aq aK (aq aK (aq aK (aq aK (aq aK (aq aK (aq aK (aq aK (aq aK (aq aK (aq aK (aq aK (aq aK (aq aK (aq aK aM))))))))))))))))))
   (aW (b_ (dG (aq (jM.de hg (hr.mono (by omega)) (by rfl) (aq (au 0) (aq (au 6) aM))) (aq (cH (au 4) aP) (aq (cH (au 4) aP) aM)))))))))))))) (ae1 n)
abbrev yG:Stmt:=topS 57
abbrev Y7:List Str:= ["source","tokens","at","way","odd"]
theorem Hr:FnScope Y7 ["source","tokens"] (defScope yG):=⟨rfl,rfl,rfl,by decide+kernel,rfl,by decide+kernel,by decide+kernel⟩
def tL (t:Str):Prop:=sg t≠ []∧(sg t).length≤8
abbrev vg:List Str:= ["x","0","7","(",")","-","+","mod","not","if","then","else","min",",","=","<=","and","zz","low"]
theorem afM: ∀t∈vg,tL t:=by unfold tL;decide+kernel
def yw:dM:=fun xs M R=> ∃(p:Addr) (l:List Str),xs= [.raw (.ref p),.d (.list (l.map PyData.str))]∧l.length≤1000∧(∀t∈l,tL t)∧dH M p∧ ∀(l':List Str) M',l'.length≤l.length+1→(∀t∈l',tL t)→dH M' p→R (.d (.list (l'.map PyData.str))) M'
theorem Fq {i:Nat} {l:List Str} {k:Nat} {te:TD} {sl:Slots} {M:Mem} {R:KD} (e:sl[i]? =some (some (.d (.list (l.map PyData.str))))) (ht: ∀R:KD,R (.d (.int (k:Nat))) M→te sl M R) (q:R (.d (.list ((l.take k).map PyData.str))) M):fM (ao i) kJ (eG te) sl M R:=by
 refine aG e ?_
 refine ht _ ?_
 show R (.d (.list (iH _ _ _))) M
 rw [K8,←List.map_take]
 exact q
theorem EY {i:Nat} {l:List Str} {k:Nat} {te:TD} {sl:Slots} {M:Mem} {R:KD} (e:sl[i]? =some (some (.d (.list (l.map PyData.str))))) (ht: ∀R:KD,R (.d (.int (k:Nat))) M→te sl M R) (q:R (.d (.list ((l.drop k).map PyData.str))) M):fM (ao i) (eG te) kJ sl M R:=by
 refine aG e ?_
 refine ht _ ?_
 show R (.d (.list (iH _ _ _))) M
 rw [Wd,←List.map_drop]
 exact q
theorem Xw {i:Nat} {l:List Str} {j k:Nat} {ta tb:TD} {sl:Slots} {M:Mem} {R:KD} (e:sl[i]? =some (some (.d (.list (l.map PyData.str))))) (ha: ∀R:KD,R (.d (.int (j:Nat))) M→ta sl M R) (hb: ∀R:KD,R (.d (.int (k:Nat))) M→tb sl M R) (q:R (.d (.list (((l.drop j).take (k-j)).map PyData.str))) M):fM (ao i) (eG ta) (eG tb) sl M R:=by
 refine aG e ?_
 refine ha _ ?_
 refine hb _ ?_
 show R (.d (.list (iH _ _ _))) M
 rw [YQ,←List.map_drop,←List.map_take]
 exact q
theorem qb {a b:List Str} {M:Mem} {R:KD} (h:a.length+b.length≤10000) (q:R (.d (.list ((a++b).map PyData.str))) M):g2 aX (.d (.list (a.map PyData.str))) (.d (.list (b.map PyData.str))) M R:=by
 refine⟨?_,?_⟩
 ·rw [List.length_map,List.length_map,sizeLine_eq]
  omega
 ·rw [←List.map_append]
  exact q
theorem ah2 {l:List PyData} {M:Mem} {R:KD} (h:R (.d (.list l.reverse)) M):K6 (.d (.list l)) M R:=h
theorem ad6 {l:List PyData} {M:Mem} {R:KD} (h:R (.d (.int (l.length:Nat))) M):iw [.d (.list l)] M R:=h
theorem Hh {k n:Nat} {sl:Slots} {M:Mem} {i:Nat} (e:sl[i]? =some (some (.d (.int (k:Nat))))): ∀R:KD,R (.d (.int ((k+n:Nat)))) M→aA (g2 aX) (ao i) (dC (.d (.int ((n:Nat):Int)))) sl M R:=fun R h=>aO (aG e (aN (jE (by rw [←Int.natCast_add];exact h))))
theorem mem3 {P:Str→Prop} {l:List Str} (h: ∀t∈l,P t) (j k:Nat): ∀t∈(l.drop j).take k,P t:=fun t ht=>h t (List.mem_of_mem_drop (List.mem_of_mem_take ht))
def YW:bK:=(aQ (aZ 2 (dCall h_ (aj (ao 0) (aj (aA (g2 aX) (dCall iw (aj (ao 1) aH)) (dC (.d (.int 1)))) aH))))
 (aQ (aZ 3 (dCall h_ (aj (ao 0) (aj (dC (.d (.int 4))) aH))))
 (aQ (aZ 4 (u_ (aj (dC (.d (.str "x"))) (aj (dC (.d (.str "0"))) (aj (dC (.d (.str "7"))) (aj (dC (.d (.str "("))) (aj (dC (.d (.str ")"))) (aj (dC (.d (.str "-"))) (aj (dC (.d (.str "+"))) (aj (dC (.d (.str "mod"))) (aj (dC (.d (.str "not"))) (aj (dC (.d (.str "if"))) (aj (dC (.d (.str "then"))) (aj (dC (.d (.str "else"))) (aj (dC (.d (.str "min"))) (aj (dC (.d (.str ","))) (aj (dC (.d (.str "="))) (aj (dC (.d (.str "<="))) (aj (dC (.d (.str "and"))) (aj (dC (.d (.str "zz"))) aH))))))))))))))))))))
 (aQ (mZ (ao 4) (dC (.d (.str "low"))))
 (aQ (bZ (dB (aA (g2 eU) (ao 3) (dC (.d (.int 0))))) (bO (aA (g2 aX) (fM (ao 1) kJ (eG (ao 2))) (fM (ao 1) (eG (aA (g2 aX) (ao 2) (dC (.d (.int 1))))) kJ))) cV)
 (aQ (bZ (dB (aA (g2 eU) (ao 3) (dC (.d (.int 1))))) (uo 4 (bO (aA (g2 aX) (aA (g2 aX) (fM (ao 1) kJ (eG (ao 2))) (cU (aj (dCall jR (aj (ao 0) (aj (ao 4) aH))) aH))) (fM (ao 1) (eG (ao 2)) kJ)))) cV)
 (aQ (bZ (dB (aA (g2 eU) (ao 3) (dC (.d (.int 2))))) (bO (aA (g2 aX) (aA (g2 aX) (fM (ao 1) kJ (eG (ao 2))) (fM (ao 1) (eG (ao 2)) (eG (aA (g2 aX) (ao 2) (dC (.d (.int 1))))))) (fM (ao 1) (eG (ao 2)) kJ))) cV)
 (bO (aA (g2 aX) (aA (g2 aX) (fM (ao 1) kJ (eG (ao 2))) (Ad K6 (fM (ao 1) (eG (ao 2)) (eG (aA (g2 aX) (ao 2) (dC (.d (.int 2)))))))) (fM (ao 1) (eG (aA (g2 aX) (ao 2) (dC (.d (.int 2))))) kJ))))))))))
theorem aix: ∀xs M R,yw xs M R→xs.length=2:=by
 rintro xs M R ⟨p,l,rfl,_⟩
 rfl
theorem acF: ∀xs M R,yw xs M R→YW {nx:=fun _ M'=>R (.d .none) M',rt:=R} (dD Y7 xs) M:=by
 rintro xs M R ⟨p,l,rfl,hl,hs,hS,h⟩
 refine aY (fun sl M1=> ∃a:Nat,sl= [some (.raw (.ref p)),some (.d (.list (l.map PyData.str))),some (.d (.int (a:Nat))),none,none]∧a≤l.length∧Keeps p M M1∧dH M1 p) (fun N hN=> ?_) ?_
 ·refine bL (bQ (aJ (aG rfl (aJ (aO ?_)))))
  refine bQ (aJ (aG rfl (aV (ad6 (aN (jE (aV ?_)))))))
  rw [List.length_map]
  refine⟨p,_,rfl,by omega,by omega,hS,fun r M1 r0 r1 k1 s1=> ?_⟩
  obtain⟨a,rfl⟩: ∃a:Nat,r=(a:Nat):=⟨r.toNat,by omega⟩
  exact hN _ _ ⟨a,rfl,by omega,k1,s1⟩
 rintro sl M1 ⟨a,rfl,ha,k1,s1⟩
 refine aY (fun sl M2=> ∃w:Nat,sl= [some (.raw (.ref p)),some (.d (.list (l.map PyData.str))),some (.d (.int (a:Nat))),some (.d (.int (w:Nat))),none]∧Keeps p M M2∧dH M2 p) (fun N hN=> ?_) ?_
 ·refine bL (bQ (aJ (aG rfl (aJ (aN (aV ?_))))))
  refine⟨p,_,rfl,by decide,by decide,s1,fun r M2 r0 r1 k2 s2=> ?_⟩
  obtain⟨w,rfl⟩: ∃w:Nat,r=(w:Nat):=⟨r.toNat,by omega⟩
  exact hN _ _ ⟨w,rfl,k1.trans k2,s2⟩
 rintro sl M2 ⟨w,rfl,k2,s2⟩
 refine sq (bL ?_)
 refine⟨Nat.le_of_ble_eq_true rfl,fun q nq=> ?_⟩
 refine sq (Yi (aG rfl (eV cY (aN (eV cY ⟨Nat.lt_of_lt_of_le (by decide:_<20) (by rw [sizeLine_eq];decide),?_⟩)))))
 rw [qH]
 have hqp:p≠q:=fun e=>by
  obtain⟨nums,i,z,_,e2⟩:=s2
  rw [←e,e2]at nq
  cases nq
 have s3:dH (bD M2 q (.lst ((vg.map PyData.str).map DV.d))) p:=by
  obtain⟨nums,i,z,h14,e2⟩:=s2
  exact⟨nums,i,z,h14,(fO hqp).trans e2⟩
 have CZ: ∀k,∀t∈l.take k,tL t:=fun k t ht=>hs t (List.mem_of_mem_take ht)
 have inD: ∀k,∀t∈l.drop k,tL t:=fun k t ht=>hs t (List.mem_of_mem_drop ht)
 have hw: ∀(c:Nat) (A B:bK) (D:fD) (sl:Slots) (M:Mem),sl[3]? =some (some (.d (.int (w:Nat))))→(w=c→A D sl M)→(w≠c→B D sl M)→bZ (dB (aA (g2 eU) (ao 3) (dC (.d (.int ((c:Nat):Int)))))) A B D sl M:=fun c A B D sl M e h1 h2=>by
  refine dN (bU (aO (aG e (aN (eqI ?_)))))
  exact gq (fun z=>h1 (by omega)) (fun z=>h2 (by omega))
 
 refine aY (fun sl M4=>sl= [some (.raw (.ref p)),some (.d (.list (l.map PyData.str))),some (.d (.int (a:Nat))),some (.d (.int (w:Nat))),some (.raw (.ref q))]∧M4=bD M2 q (.lst ((vg.map PyData.str).map DV.d))) (fun N hN=> ?_) ?_
 ·refine hw 0 _ _ _ _ _ rfl ?_ ?_
  rotate_left
  ·exact fun _=>hN _ _ ⟨rfl,rfl⟩
  intro _
  refine cJ (aO (Fq (k:=a) rfl (fun R h=>aG rfl h) (EY (k:=a+1) rfl (Hh (n:=1) rfl) (qb ?_ ?_))))
  ·rw [List.length_take,List.length_drop]
   omega
  ·refine h _ _ ?_ (jk (CZ a) (inD (a+1))) s3
   rw [List.length_append,List.length_take,List.length_drop]
   omega
 rintro sl M4 ⟨rfl,rfl⟩
 
 refine aY (fun sl M4=>sl= [some (.raw (.ref p)),some (.d (.list (l.map PyData.str))),some (.d (.int (a:Nat))),some (.d (.int (w:Nat))),some (.raw (.ref q))]∧M4=bD M2 q (.lst ((vg.map PyData.str).map DV.d))) (fun N hN=> ?_) ?_
 ·refine hw 1 _ _ _ _ _ rfl ?_ ?_
  rotate_left
  ·exact fun _=>hN _ _ ⟨rfl,rfl⟩
  intro _
  refine eV cY (bB (x:=vg.map PyData.str) rfl ?_)
  have s4:dH (cZ (bD M2 q (.lst ((vg.map PyData.str).map DV.d))) q) p:=by
   obtain⟨nums,i,z,h14,e2⟩:=s3
   exact⟨nums,i,z,h14,(m9 hqp).trans e2⟩
  refine cJ (aO (aO (Fq (k:=a) rfl (fun R h=>aG rfl h) ?_)))
  refine bQ (aJ (aG rfl (aJ (aG rfl (aV ?_)))))
  refine⟨p,vg.map PyData.str,rfl,Nat.le_of_ble_eq_true rfl,Nat.le_of_ble_eq_true rfl,s4,fun d M5 hd k5 s5=> ?_⟩
  obtain⟨t,ht,rfl⟩:=List.mem_map.mp hd
  refine aV (bB rfl ⟨Nat.le_of_ble_eq_true rfl,?_⟩)
  refine qb (a:=l.take a) (b:= [t]) ?_ (EY (k:=a) rfl (fun R h=>aG rfl h) (qb ?_ ?_))
  ·rw [List.length_take,List.length_singleton]
   omega
  ·rw [List.length_append,List.length_take,List.length_drop,List.length_singleton]
   omega
  ·refine h _ _ ?_ (jk (jk (CZ a) (oO (afM t ht))) (inD a)) s5
   rw [List.length_append,List.length_append,List.length_take,List.length_drop,List.length_singleton]
   omega
 rintro sl M4 ⟨rfl,rfl⟩
 
 refine aY (fun sl M4=>sl= [some (.raw (.ref p)),some (.d (.list (l.map PyData.str))),some (.d (.int (a:Nat))),some (.d (.int (w:Nat))),some (.raw (.ref q))]∧M4=bD M2 q (.lst ((vg.map PyData.str).map DV.d))) (fun N hN=> ?_) ?_
 ·refine hw 2 _ _ _ _ _ rfl ?_ ?_
  rotate_left
  ·exact fun _=>hN _ _ ⟨rfl,rfl⟩
  intro _
  refine cJ (aO (aO (Fq (k:=a) rfl (fun R h=>aG rfl h) (Xw (j:=a) (k:=a+1) rfl (fun R h=>aG rfl h) (Hh (n:=1) rfl) (qb ?_ (EY (k:=a) rfl (fun R h=>aG rfl h) (qb ?_ ?_)))))))
  ·rw [List.length_take,List.length_take,List.length_drop]
   omega
  ·rw [List.length_append,List.length_take,List.length_take,List.length_drop]
   omega
  ·refine h _ _ ?_ (jk (jk (CZ a) (mem3 hs a _)) (inD a)) s3
   rw [List.length_append,List.length_append,List.length_take,List.length_take,List.length_drop]
   omega
 rintro sl M4 ⟨rfl,rfl⟩
 
 refine cJ (aO (aO (Fq (k:=a) rfl (fun R h=>aG rfl h) ?_)))
 unfold Ad
 refine Xw (j:=a) (k:=a+2) rfl (fun R h=>aG rfl h) (Hh (n:=2) rfl) ?_
 refine ah2 ?_
 rw [←List.map_reverse]
 refine qb ?_ (EY (k:=a+2) rfl (Hh (n:=2) rfl) (qb ?_ ?_))
 ·rw [List.length_reverse,List.length_take,List.length_take,List.length_drop]
  omega
 ·rw [List.length_append,List.length_reverse,List.length_take,List.length_take,List.length_drop,List.length_drop]
  omega
 ·refine h _ _ ?_ (jk (jk (CZ a) fun t ht=>mem3 hs a _ t (List.mem_reverse.mp ht)) (inD (a+2))) s3
  rw [List.length_append,List.length_append,List.length_reverse,List.length_take,List.length_take,List.length_drop,List.length_drop]
  omega
theorem ac6 {P:Program} {w:World} {K:PySem.W.Frag} {mg:Str→Option Value} {base:Heap} {dV:Value} {f:Addr} {fd:FuncData} (F:dw K "_law_changed" "_law_changed" yG dV f fd) (fX:Def P w K mg base "_law_pick" 2 h_) (jM:Def P w K mg base "_law_choose" 3 jR) (fJ:mg "len" =none):bM P w K mg base CX0 4 f fd ["source","tokens"] (dO K yw):=
 F.data Hr aix YW (fun cdv A outer s H E hg hr=>
  (aR (bx (i:=2) Hr.nd rfl (by first|exact Or.inl rfl|exact Or.inr rfl) (fX.de hg (hr.mono (by decide)) (by rfl) (aq (au 0) (aq (aU bH (gU jJ (by rfl) fJ (by decide+kernel) (aq (au 1) aM)) aP) aM))))
   (aR (bx (i:=3) Hr.nd rfl (by first|exact Or.inl rfl|exact Or.inr rfl) (fX.de hg (hr.mono (by decide)) (by rfl) (aq (au 0) (aq aP aM))))
   (aR (bx (i:=4) Hr.nd rfl (by first|exact Or.inl rfl|exact Or.inr rfl) (wj (aq aK (aq aK (aq aK (aq aK (aq aK (aq aK (aq aK (aq aK (aq aK (aq aK (aq aK (aq aK (aq aK (aq aK (aq aK (aq aK (aq aK (aq aK aM))))))))))))))))))))
   (aR (xX (au 4) aK)
   (aR (cP (bJ (gj hr) (au 3) aP (nomark _)) (aW (b_ (aU bH (jo (au 1) m_ (gY (au 2))) (jo (au 1) (gY (aU bH (au 2) aP)) m_)))) cW)
   (aR (cP (bJ (gj hr) (au 3) aP (nomark _)) (BX 4 (aW (b_ (aU bH (aU bH (jo (au 1) m_ (gY (au 2))) (dZ (aq (jM.de hg (hr.mono (by decide)) (by rfl) (aq (au 0) (aq (au 4) aM))) aM))) (jo (au 1) (gY (au 2)) m_))))) cW)
   (aR (cP (bJ (gj hr) (au 3) aP (nomark _)) (aW (b_ (aU bH (aU bH (jo (au 1) m_ (gY (au 2))) (jo (au 1) (gY (au 2)) (gY (aU bH (au 2) aP)))) (jo (au 1) (gY (au 2)) m_)))) cW)
   (aW (b_ (aU bH (aU bH (jo (au 1) m_ (gY (au 2))) (ac4 (jo (au 1) (gY (au 2)) (gY (aU bH (au 2) aP))))) (jo (au 1) (gY (aU bH (au 2) aP)) m_)))))))))))) acF
abbrev yO:Stmt:=topS 44
abbrev V3:List Str:= ["source","tokens","text","token","last","words","letters","symbols","spaces"]
theorem sO:FnScope V3 ["source","tokens"] (defScope yO):=⟨rfl,rfl,rfl,by decide+kernel,rfl,by decide+kernel,by decide+kernel⟩
def xM:dM:=fun xs M R=> ∃(p:Addr) (toks:List Str),xs= [.raw (.ref p),.d (.list (toks.map PyData.str))]∧toks.length≤500∧(∀t∈toks,sg t≠ []∧(sg t).length≤8)∧dH M p∧
 ∀z M',Fw toks (sg z)→(sg z).length≤11*toks.length+1→Keeps p M M'→dH M' p→R (.d (.str z)) M'
theorem agz {c:Nat} {S:Str} {M:Mem} {R:KD} (k:R (.d (.bool (!decide (c∈sg S)))) M):g2 (inD true) (.d (.str ⟨#[c]⟩)) (.d (.str S)) M R:=by
 show R (.d (.bool (!(!(Builtin.Str.occurrences S ⟨#[c]⟩ 0 S.length 1).isEmpty)))) M
 rw [PySem.StrLaws.found_one]
 exact k
theorem wu (n:Nat):sg (Txt.mul (" " :Str) ((n:Nat):Int))=wM n:=by
 show(Txt.mul (" " :Str) ((n:Nat):Int)).cps.toList=_
 rw [W9 (x:=(" " :Str)) (Nat.lt_of_lt_of_eq (by decide:0<1) rfl)]
 show(List.replicate n [32]).flatten=_
 induction n with
 |zero=>rfl
 |succ n ih=>rw [List.replicate_succ,List.flatten_cons,ih];rfl
theorem aeG {α:Type} (xs:List α):iH xs (some (-1)) none=xs.drop (xs.length-1):=by
 unfold iH
 rw [HT.sIx_none]
 have e:HT.sIx xs.length 0 (some (-1))=xs.length-1:=by
  unfold HT.sIx
  simp
  omega
 rw [e,List.take_of_length_le (by rw [List.length_drop];exact Nat.le_refl _)]
theorem agg {z:Str}:(sg z= []∧cutS z (some (-1)) none= "")∨ ∃c,(sg z).getLast? =some c∧cutS z (some (-1)) none=⟨#[c]⟩:=by
 have e:sg (cutS z (some (-1)) none)=(sg z).drop ((sg z).length-1):=by
  rw [Cq]
  exact aeG _
 by_cases h:sg z= []
 ·refine .inl ⟨h,uW ?_⟩
  rw [e,h]
  rfl
 ·obtain⟨l,c,hlc⟩: ∃l c,sg z=l++ [c]:=⟨(sg z).dropLast,(sg z).getLast h,(List.dropLast_concat_getLast h).symm⟩
  refine .inr ⟨c,by rw [hlc,List.getLast?_append];rfl,uW ?_⟩
  rw [e,hlc,List.length_append,List.length_singleton,Nat.add_sub_cancel,List.drop_append,Nat.sub_self,List.drop_of_length_le (Nat.le_refl _)]
  rfl
theorem VJ {p:Addr} {sl:Slots} {M:Mem} {b:Bool} {R:KD} (h0:sl[0]? =some (some (.raw (.ref p)))) (hS:dH M p) (k: ∀(n:Nat) M',n≤3→(b=true→1≤n)→dH M' p→Keeps p M M'→R (.d (.int (n:Nat))) M'):
  aH sl M fun xs M1=>g1 uN (.d (.bool b)::xs) M1 fun x M1=>aj (dCall jR (aj (ao 0) (aj (cU (aj (dC (.d (.int 0))) (aj (dC (.d (.int 0))) (aj (dC (.d (.int 1))) (aj (dC (.d (.int 1))) (aj (dC (.d (.int 1))) (aj (dC (.d (.int 3))) aH))))))) aH))) aH sl M1 fun xs M2=>Je (x::xs) M2 R:=by
 refine aV (Mp ?_)
 refine aJ (bQ (aJ (aG h0 (aJ ?_))))
 refine bB (x:= [.int 0,.int 0,.int 1,.int 1,.int 1,.int 3]) rfl ⟨Nat.le_of_ble_eq_true rfl,aV ?_⟩
 refine⟨p,_,rfl,Nat.le_of_ble_eq_true rfl,Nat.le_of_ble_eq_true rfl,hS,fun y M4 hy k4 s4=>aV ?_⟩
 obtain⟨n,rfl,hn3⟩: ∃n:Nat,y= .int (n:Nat)∧n≤3:=by
  simp only [List.mem_cons,List.not_mem_nil,or_false]at hy
  rcases hy with rfl|rfl|rfl|rfl|rfl|rfl
  ·exact⟨0,rfl,by decide⟩
  ·exact⟨0,rfl,by decide⟩
  ·exact⟨1,rfl,by decide⟩
  ·exact⟨1,rfl,by decide⟩
  ·exact⟨1,rfl,by decide⟩
  ·exact⟨3,rfl,by decide⟩
 have ek:(if ((n:Nat):Int)>(if b=true then 1 else 0)then((n:Nat):Int)else(if b=true then 1 else 0))=(((if b=true then max n 1 else n):Nat):Int):=by
  cases b with
  |true=>
   show(if ((n:Nat):Int)>1 then((n:Nat):Int)else 1)=(((max n 1:Nat)):Int)
   split<;>omega
  |false=>
   show(if ((n:Nat):Int)>0 then((n:Nat):Int)else 0)=((n:Nat):Int)
   split<;>omega
 show R (.d (.int (if ((n:Nat):Int)>(if b=true then 1 else 0)then((n:Nat):Int)else(if b=true then 1 else 0)))) M4
 rw [ek]
 refine k _ M4 ?_ (fun h=> ?_) s4 k4
 ·split<;>omega
 ·rw [h,if_pos rfl]
  omega
def Vj:bK:=(aQ (aZ 2 (dC (.d (.str ""))))
 (aQ (o9 (o_ (ao 1)) (iT 3) (aQ (aZ 4 (fM (ao 2) (eG (Ad Vs (dC (.d (.int 1))))) kJ))
 (aQ (aZ 5 (uh (aA (g2 jC) (ao 4) (dC (.d (.str "")))) (aA (g2 (inD false)) (ao 4) (dC (.d (.str "abcdefghijklmnopqrstuvwxyz0123456789"))))))
 (aQ (aZ 6 (uh (ao 5) (aA (g2 (inD true)) (aA bf (ao 3) (dC (.d (.int 0)))) (dC (.d (.str "+-*=<>!(),:."))))))
 (aQ (aZ 7 (uh (aA (g2 jC) (ao 4) (dC (.d (.str "")))) (uh (aA (g2 (inD false)) (ao 4) (dC (.d (.str "<>!:=.")))) (aA (g2 (inD false)) (aA bf (ao 3) (dC (.d (.int 0)))) (dC (.d (.str "=.")))))))
 (aQ (aZ 8 (dCall Je (aj (dCall (g1 uN) (aj (Jx (ao 6) (ao 7)) aH)) (aj (dCall jR (aj (ao 0) (aj (cU (aj (dC (.d (.int 0))) (aj (dC (.d (.int 0))) (aj (dC (.d (.int 1))) (aj (dC (.d (.int 1))) (aj (dC (.d (.int 1))) (aj (dC (.d (.int 3))) aH))))))) aH))) aH))))
 (aZ 2 (aA (g2 aX) (aA (g2 aX) (ao 2) (aA (g2 jd) (dC (.d (.str " "))) (ao 8))) (ao 3)))))))))
 (bO (aA (g2 aX) (ao 2) (aA (g2 jd) (dC (.d (.str " "))) (dCall h_ (aj (ao 0) (aj (dC (.d (.int 2))) aH))))))))
theorem ab1: ∀xs M R,xM xs M R→xs.length=2:=by
 rintro xs M R ⟨p,toks,rfl,_⟩
 rfl
theorem afZ: ∀xs M R,xM xs M R→Vj {nx:=fun _ M'=>R (.d .none) M',rt:=R} (dD V3 xs) M:=by
 rintro xs M R ⟨p,toks,rfl,hn,ht,hS,hR⟩
 refine sq (bL (aN ?_))
 refine aY (fun sl M1=> ∃(z:Str) (pQ pU jN lB lC lD:Option DV),sl= [some (.raw (.ref p)),some (.d (.list (toks.map PyData.str))),some (.d (.str z)),pQ,pU,jN,lB,lC,lD]∧JI toks (sg z)∧(sg z).length≤11*toks.length∧dH M1 p∧Keeps p M M1) (fun N hN=> ?_) ?_
 ·unfold o9
  refine aG rfl ?_
  refine⟨fun j sl M1=> ∃(z:Str) (pQ pU jN lB lC lD:Option DV),sl= [some (.raw (.ref p)),some (.d (.list (toks.map PyData.str))),some (.d (.str z)),pQ,pU,jN,lB,lC,lD]∧JI (toks.take j) (sg z)∧(sg z).length≤11*j∧dH M1 p∧Keeps p M M1,⟨"",_,_,_,_,_,_,rfl,ahg,Nat.zero_le _,hS,Keeps.refl p M⟩,?_,?_⟩
  ·rintro j x sl M1 hx ⟨z,pQ,pU,jN,lB,lC,lD,rfl,hJ,hzl,hS1,k1⟩
   obtain⟨t,hj,rfl⟩: ∃t,toks[j]? =some t∧x= .d (.str t):=by
    have hx:((toks.map PyData.str).map DV.d)[j]? =some x:=hx
    rw [List.map_map]at hx
    exact yu hx
   have hjl:=(List.getElem?_eq_some_iff.mp hj).1
   have htt:=ht t (List.mem_of_getElem? hj)
   have ht0:0<(sg t).length:=List.length_pos_iff.mpr htt.1
   obtain⟨d,td,etd⟩:=List.exists_cons_of_ne_nil htt.1
   have hd0:(sg t).getD 0 0=d:=by rw [etd];rfl
   have hz6:z.length≤1000000:=by rw [str_len];omega
   have ht6:t.length≤1000000:=by rw [str_len];omega
   refine jL ?_
   
   refine aY (fun sl M2=> ∃(jN lB lC lD:Option DV),sl= [some (.raw (.ref p)),some (.d (.list (toks.map PyData.str))),some (.d (.str z)),some (.d (.str t)),some (.d (.str (cutS z (some (-1)) none))),jN,lB,lC,lD]∧M2=M1) (fun N1 hN1=> ?_) ?_
   ·refine bL ?_
    unfold fM eG Ad
    exact aG rfl ⟨small hz6,hN1 _ _ ⟨_,_,_,_,rfl,rfl⟩⟩
   rintro sl M2 ⟨jN,lB,lC,lD,rfl,rfl⟩
   
   have hlast:=agg (z:=z)
   generalize cutS z (some (-1)) none=L at hlast
   have hne: ∀c:Nat,decide ((⟨#[c]⟩:Str)= "")=false:=fun c=>decide_eq_false fun h=>by
    have:=congrArg sg h
    cases this
   refine aY (fun sl M3=> ∃(w:Bool) (lB lC lD:Option DV),sl= [some (.raw (.ref p)),some (.d (.list (toks.map PyData.str))),some (.d (.str z)),some (.d (.str t)),some (.d (.str L)),some (.d (.bool w)),lB,lC,lD]∧(∀c,(sg z).getLast? =some c→w=gK c)∧M3=M2) (fun N1 hN1=> ?_) ?_
   ·refine bL ?_
    unfold uh
    refine aO (aG rfl (aN (ne_str ?_)))
    rcases hlast with⟨hz,rfl⟩|⟨c,hc,rfl⟩
    ·rw [decide_eq_true (rfl:("" :Str)= "")]
     refine bW rfl ?_
     exact hN1 _ _ ⟨false,_,_,_,rfl,fun c hc=>(by rw [hz]at hc;cases hc),rfl⟩
    ·rw [hne]
     refine cG rfl ?_
     refine aO (aG rfl (aN (oK ?_)))
     have ew:decide (c∈sg ("abcdefghijklmnopqrstuvwxyz0123456789" :Str))=gK c:=Mj c
     rw [ew]
     exact hN1 _ _ ⟨_,_,_,_,rfl,fun c' hc'=>(by rw [hc]at hc';cases hc';rfl),rfl⟩
   rintro sl M3 ⟨w,lB,lC,lD,rfl,hw,rfl⟩
   refine aY (fun sl M4=> ∃(b1:Bool) (jN lC lD:Option DV),sl= [some (.raw (.ref p)),some (.d (.list (toks.map PyData.str))),some (.d (.str z)),some (.d (.str t)),some (.d (.str L)),jN,some (.d (.bool b1)),lC,lD]∧(∀c,(sg z).getLast? =some c→gK c=true→d∉sg ("+-*=<>!(),:." :Str)→b1=true)∧M4=M3) (fun N1 hN1=> ?_) ?_
   ·refine bL ?_
    unfold uh
    refine aG rfl ?_
    cases w with
    |true=>
     refine cG rfl ?_
     refine aO (aO (aG rfl (aN (qC (i:=0) ht6 ht0 (aN (agz ?_))))))
     rw [hd0]
     exact hN1 _ _ ⟨_,_,_,_,rfl,fun c hc _ h=>(by rw [decide_eq_false h];rfl),rfl⟩
    |false=>
     refine bW rfl ?_
     exact hN1 _ _ ⟨_,_,_,_,rfl,fun c hc h _=>(by rw [←hw c hc]at h;cases h),rfl⟩
   rintro sl M4 ⟨b1,jN,lC,lD,rfl,hb1,rfl⟩
   refine aY (fun sl M5=> ∃(b2:Bool) (pU jN lD:Option DV),sl= [some (.raw (.ref p)),some (.d (.list (toks.map PyData.str))),some (.d (.str z)),some (.d (.str t)),pU,jN,some (.d (.bool b1)),some (.d (.bool b2)),lD]∧(∀c,(sg z).getLast? =some c→bad c d→(b1||b2)=true)∧M5=M4) (fun N1 hN1=> ?_) ?_
   ·have fin: ∀(b2:Bool),(∀c,(sg z).getLast? =some c→c∈sg ("<>!:=." :Str)→d∈sg ("=." :Str)→b2=true)→ ∀c,(sg z).getLast? =some c→bad c d→(b1||b2)=true:=fun b2 h2 c hc hb=>by
     rcases hb with⟨q1,q2⟩|⟨q1,q2⟩
     ·rw [hb1 c hc q1 q2]
      rfl
     ·rw [h2 c hc q1 q2,Bool.or_true]
    refine bL ?_
    unfold uh
    refine aO (aG rfl (aN (ne_str ?_)))
    rcases hlast with⟨hz,rfl⟩|⟨c,hc,rfl⟩
    ·rw [decide_eq_true (rfl:("" :Str)= "")]
     refine bW rfl ?_
     exact hN1 _ _ ⟨false,_,_,_,rfl,fun c hc=>(by rw [hz]at hc;cases hc),rfl⟩
    ·rw [hne]
     refine cG rfl ?_
     refine aO (aG rfl (aN (oK ?_)))
     by_cases q:c∈sg ("<>!:=." :Str)
     ·rw [decide_eq_true q]
      refine cG rfl ?_
      refine aO (aO (aG rfl (aN (qC (i:=0) ht6 ht0 (aN (oK ?_))))))
      rw [hd0]
      exact hN1 _ _ ⟨_,_,_,_,rfl,fin _ fun _ _ _ h=>decide_eq_true h,rfl⟩
     ·rw [decide_eq_false q]
      refine bW rfl ?_
      exact hN1 _ _ ⟨_,_,_,_,rfl,fin _ fun c' hc' h _=>(by rw [hc]at hc';cases hc';exact absurd h q),rfl⟩
   rintro sl M5 ⟨b2,pU,jN,lD,rfl,hb,rfl⟩
   
   refine aY (fun sl M4=> ∃(k:Nat) (pU jN lB lC:Option DV),sl= [some (.raw (.ref p)),some (.d (.list (toks.map PyData.str))),some (.d (.str z)),some (.d (.str t)),pU,jN,lB,lC,some (.d (.int (k:Nat)))]∧k≤3∧((b1||b2)=true→1≤k)∧dH M4 p∧Keeps p M M4) (fun N1 hN1=> ?_) ?_
   ·refine bL (bQ (aJ (bQ (aJ ?_))))
    unfold Jx
    refine aG rfl ?_
    cases b1 with
    |true=>exact cG rfl (VJ rfl hS1 fun n M6 h1 h2 s6 k6=>hN1 _ _ ⟨n,_,_,_,_,rfl,h1,fun _=>h2 rfl,s6,k1.trans k6⟩)
    |false=>exact bW rfl (aG rfl (VJ rfl hS1 fun n M6 h1 h2 s6 k6=>hN1 _ _ ⟨n,_,_,_,_,rfl,h1,fun h=>h2 h,s6,k1.trans k6⟩))
   rintro sl M4 ⟨k,pU,jN,lB,lC,rfl,hk3,hk1,hS4,k4⟩
   refine bL (aO (aO (aG rfl (aO (aN (aG rfl ⟨⟨by omega,by omega,Nat.le_of_ble_eq_true rfl⟩,⟨?_,aG rfl ⟨?_,?_⟩⟩⟩))))))
   ·rw [str_len,str_len,wu,List.length_replicate]
    exact Nat.le_trans (show _≤100000 by omega) (by decide)
   ·rw [str_len,str_len,uK,wu,List.length_append,List.length_replicate]
    exact Nat.le_trans (show _≤100000 by omega) (by decide)
   ·refine⟨_,_,_,_,_,_,_,rfl,?_,?_,hS4,k4⟩
    ·rw [take_snoc hj,uK,uK,wu]
     refine ad3 hJ htt.1 fun c d' hc hd' hbad=> ?_
     rw [etd]at hd'
     cases hd'
     exact hk1 (hb c hc hbad)
    ·rw [uK,uK,wu,List.length_append,List.length_append,List.length_replicate]
     omega
  ·rintro sl M1 ⟨z,pQ,pU,jN,lB,lC,lD,rfl,hJ,hzl,hS1,k1⟩
   rw [List.length_map,List.length_map]at hzl
   rw [List.length_map,List.length_map,List.take_of_length_le (Nat.le_refl _)]at hJ
   exact hN _ _ ⟨z,_,_,_,_,_,_,rfl,hJ,hzl,hS1,k1⟩
 rintro sl M1 ⟨z,pQ,pU,jN,lB,lC,lD,rfl,hJ,hzl,hS1,k1⟩
 refine cJ (aO (aG rfl (aO (aN (bQ (aJ (aG rfl (aJ (aN (aV ?_))))))))))
 refine⟨p,2,rfl,by decide,by decide,hS1,fun y M2 y0 y1 k2 s2=> ?_⟩
 obtain⟨n,rfl⟩: ∃n:Nat,y=((n:Nat):Int):=⟨y.toNat,by omega⟩
 refine⟨⟨by omega,by omega,Nat.le_of_ble_eq_true rfl⟩,?_,?_⟩
 ·rw [str_len,str_len,wu,List.length_replicate]
  exact Nat.le_trans (show _≤100000 by omega) (by decide)
 ·refine hR _ M2 ?_ ?_ (k1.trans k2) s2
  ·rw [uK,wu]
   exact ac9 hJ n
  ·rw [uK,wu,List.length_append,List.length_replicate]
   omega
theorem ac2 {P:Program} {w:World} {K:PySem.W.Frag} {mg:Str→Option Value} {base:Heap} {dV:Value} {f:Addr} {fd:FuncData} (F:dw K "_law_joined" "_law_joined" yO dV f fd) (jM:Def P w K mg base "_law_choose" 3 jR) (fX:Def P w K mg base "_law_pick" 2 h_) (Mw:mg "max" =none) (oR:mg "int" =none):bM P w K mg base CX0 4 f fd ["source","tokens"] (dO K xM):=
 F.data sO ab1 Vj (fun cdv A outer s H E hg hr=>
  (aR (bx (i:=2) sO.nd rfl (by first|exact Or.inl rfl|exact Or.inr rfl) aK)
   (aR (vO PassesOwn.never rfl (v8 (au 1)) (jf (i:=3) sO.nd rfl (by first|exact Or.inl rfl|exact Or.inr rfl)) (aR (bx (i:=4) sO.nd rfl (by first|exact Or.inl rfl|exact Or.inr rfl) (jo (au 2) (gY (agO aP)) m_))
   (aR (bx (i:=5) sO.nd rfl (by first|exact Or.inl rfl|exact Or.inr rfl) (Dr (tX (mO hr) (au 4) aK (nomark _)) (CJ (tX (jP hr) (au 4) aK rfl))))
   (aR (bx (i:=6) sO.nd rfl (by first|exact Or.inl rfl|exact Or.inr rfl) (Dr (au 5) (CJ (tX (Br hr) (cH (au 3) aP) aK rfl))))
   (aR (bx (i:=7) sO.nd rfl (by first|exact Or.inl rfl|exact Or.inr rfl) (Dr (tX (mO hr) (au 4) aK (nomark _)) (Dr (tX (jP hr) (au 4) aK rfl) (CJ (tX (jP hr) (cH (au 3) aP) aK rfl)))))
   (aR (bx (i:=8) sO.nd rfl (by first|exact Or.inl rfl|exact Or.inr rfl) (gU (agX rfl) (by rfl) Mw (by decide+kernel) (aq (wD Dc (by rfl) oR (by decide+kernel) (aq (acv (au 6) (CJ (au 7))) aM)) (aq (jM.de hg (hr.mono (by decide)) (by rfl) (aq (au 0) (aq (dZ (aq aP (aq aP (aq aP (aq aP (aq aP (aq aP aM))))))) aM))) aM))))
   (aW (bx (i:=2) sO.nd rfl (by first|exact Or.inl rfl|exact Or.inr rfl) (aU bH (aU bH (au 2) (aU kh aK (au 8))) (au 3))))))))))
   (aW (b_ (aU bH (au 2) (aU kh aK (fX.de hg (hr.mono (by decide)) (by rfl) (aq (au 0) (aq aP aM)))))))))) afZ
abbrev xK:Stmt:=topS 60
abbrev Uj:List Str:= ["source","many","way","parts"]
theorem Fy:FnScope Uj ["source","many"] (defScope xK):=⟨rfl,rfl,rfl,by decide+kernel,rfl,by decide+kernel,by decide+kernel⟩
def Ae:dM:=fun xs M R=> ∃(p:Addr) (k:Nat),xs= [.raw (.ref p),.d (.int (k:Nat))]∧2≤k∧k≤40∧dH M p∧ ∀(z:Str) M',z.length≤2000→Keeps p M M'→dH M' p→R (.d (.str z)) M'
theorem Cv {x:Str} {n:Nat} (h:0<x.length):(Txt.mul x (n:Nat)).length=n*x.length:=by
 have e:=W9 (x:=x) (n:=n) h
 have: ∀(n:Nat) (l:List Nat),((List.replicate n l).flatten).length=n*l.length:=by
  intro n l
  induction n with
  |zero=>simp
  |succ n ih=>rw [List.replicate_succ,List.flatten_cons,List.length_append,ih,Nat.succ_mul];omega
 rw [TL.len_tl,show TL.tl (Txt.mul x (n:Nat))=_ from e,this,TL.len_tl]
theorem pG {x:Str} {k b:Nat} {M:Mem} {R:KD} (hk:k≤100000) (hx:x.length=b) (h0:0<b) (hb:b≤100) (q: ∀z:Str,z.length=k*b→R (.d (.str z)) M):g2 jd (.d (.str x)) (.d (.int (k:Nat))) M R:=⟨⟨by omega,by omega,by omega⟩,q _ (by rw [Cv (by omega),hx])⟩
theorem add_sl {x y:Str} {M:Mem} {R:KD} (h:x.length+y.length≤100000) (q: ∀z:Str,z.length=x.length+y.length→R (.d (.str z)) M):g2 aX (.d (.str x)) (.d (.str y)) M R:=⟨by rw [sizeLine_eq];omega,q _ (Str.length_append ..)⟩
def Vw:bK:=(aQ (aZ 2 (dCall h_ (aj (ao 0) (aj (dC (.d (.int 7))) aH))))
 (aQ (bZ (dB (aA (g2 (jX fun i j=>decide (j<i))) (ao 2) (dC (.d (.int 4))))) (aQ (aZ 3 (aA bf (cU (aj (cU (aj (dC (.d (.str "(not -"))) (aj (dC (.d (.str ")"))) aH))) (aj (cU (aj (dC (.d (.str "if ("))) (aj (dC (.d (.str ") then 1 else 0"))) aH))) aH))) (aA (g2 (intOp (· - ·))) (ao 2) (dC (.d (.int 5))))))
 (aQ (aZ 1 (aA (g2 aX) (aA (g2 (jA CDivW (· / ·))) (ao 1) (aA (g2 (intOp (· - ·))) (ao 2) (dC (.d (.int 3))))) (dC (.d (.int 1)))))
 (bO (aA (g2 aX) (aA (g2 aX) (aA (g2 jd) (aA bf (ao 3) (dC (.d (.int 0)))) (ao 1)) (dC (.d (.str "x")))) (aA (g2 jd) (aA bf (ao 3) (dC (.d (.int 1)))) (ao 1)))))) cV)
 (aQ (bZ (dB (aA (g2 eU) (ao 2) (dC (.d (.int 0))))) (bO (aA (g2 aX) (aA (g2 aX) (aA (g2 jd) (dC (.d (.str "("))) (ao 1)) (dC (.d (.str "1")))) (aA (g2 jd) (dC (.d (.str ")"))) (ao 1)))) cV)
 (aQ (bZ (dB (aA (g2 eU) (ao 2) (dC (.d (.int 1))))) (bO (aA (g2 aX) (aA (g2 jd) (dC (.d (.str "not "))) (ao 1)) (dC (.d (.str "x"))))) cV)
 (aQ (bZ (dB (aA (g2 eU) (ao 2) (dC (.d (.int 2))))) (bO (aA (g2 aX) (aA (g2 jd) (dC (.d (.str "-"))) (ao 1)) (dC (.d (.str "x"))))) cV)
 (aQ (bZ (dB (aA (g2 eU) (ao 2) (dC (.d (.int 3))))) (bO (aA (g2 aX) (aA (g2 jd) (dC (.d (.str "if x then 1 else "))) (ao 1)) (dC (.d (.str "0"))))) cV)
 (bO (aA (g2 aX) (aA (g2 aX) (aA (g2 jd) (dC (.d (.str "min(1, -("))) (aA (g2 (jA CDivW (· / ·))) (ao 1) (dC (.d (.int 3))))) (dC (.d (.str "x")))) (aA (g2 jd) (dC (.d (.str "))"))) (aA (g2 (jA CDivW (· / ·))) (ao 1) (dC (.d (.int 3)))))))))))))
theorem afl: ∀xs M R,Ae xs M R→xs.length=2:=by
 rintro xs M R ⟨p,k,rfl,_⟩
 rfl
theorem ahG: ∀xs M R,Ae xs M R→Vw {nx:=fun _ M'=>R (.d .none) M',rt:=R} (dD Uj xs) M:=by
 rintro xs M R ⟨p,k,rfl,hk0,hk,hS,h⟩
 refine aY (fun sl M2=> ∃w:Nat,w<7∧sl= [some (.raw (.ref p)),some (.d (.int (k:Nat))),some (.d (.int (w:Nat))),none]∧Keeps p M M2∧dH M2 p) (fun N hN=> ?_) ?_
 ·refine bL (bQ (aJ (aG rfl (aJ (aN (aV ?_))))))
  refine⟨p,_,rfl,by decide,by decide,hS,fun r M2 r0 r1 k2 s2=> ?_⟩
  obtain⟨w,rfl⟩: ∃w:Nat,r=(w:Nat):=⟨r.toNat,by omega⟩
  exact hN _ _ ⟨w,by omega,rfl,k2,s2⟩
 rintro sl M1 ⟨w,hw7,rfl,k1,s1⟩
 have x1:("x" :Str).length=1:=by decide+kernel
 have fin: ∀z:Str,z.length≤2000→R (.d (.str z)) M1:=fun z hz=>h z M1 hz k1 s1
 have hw: ∀(c:Nat) (A B:bK) (D:fD) (sl:Slots) (M:Mem),sl[2]? =some (some (.d (.int (w:Nat))))→(w=c→A D sl M)→(w≠c→B D sl M)→bZ (dB (aA (g2 eU) (ao 2) (dC (.d (.int ((c:Nat):Int)))))) A B D sl M:=fun c A B D sl M e h1 h2=>by
  refine dN (bU (aO (aG e (aN (eqI ?_)))))
  exact gq (fun z=>h1 (by omega)) (fun z=>h2 (by omega))
 refine aY (fun sl M2=>sl= [some (.raw (.ref p)),some (.d (.int (k:Nat))),some (.d (.int (w:Nat))),none]∧M2=M1) (fun N hN=> ?_) ?_
 ·refine dN (bU (aO (aG rfl (aN (Mi ?_)))))
  refine gq (fun h4=> ?_) (fun h4=>hN _ _ ⟨rfl,rfl⟩)
  have pair: ∃(u v:Str) (j m:Nat),w=5+j∧((j=0∧u= "(not -" ∧v= ")")∨(j=1∧u= "if (" ∧v= ") then 1 else 0"))∧((k:Nat):Int)/(((w:Nat):Int)-3)+1=((m:Nat):Int)∧m≤41:=by
   have hm: ∃m:Nat,((k:Nat):Int)/(((w:Nat):Int)-3)+1=((m:Nat):Int)∧m≤41:=by
    have h1:(0:Int)≤((k:Nat):Int)/(((w:Nat):Int)-3):=Int.ediv_nonneg (by omega) (by omega)
    have h2:((k:Nat):Int)/(((w:Nat):Int)-3)≤((k:Nat):Int):=Int.ediv_le_self _ (by omega)
    exact⟨(((k:Nat):Int)/(((w:Nat):Int)-3)+1).toNat,by omega,by omega⟩
   obtain⟨m,e,hm⟩:=hm
   have:w=5∨w=6:=by omega
   rcases this with rfl|rfl
   ·exact⟨_,_,0,m,rfl,.inl ⟨rfl,rfl,rfl⟩,e,hm⟩
   ·exact⟨_,_,1,m,rfl,.inr ⟨rfl,rfl,rfl⟩,e,hm⟩
  obtain⟨u,v,j,m,ew,huv,em,hm⟩:=pair
  have lu:(u.length=6∧v.length=1)∨(u.length=4∧v.length=15):=by
   rcases huv with⟨_,rfl,rfl⟩|⟨_,rfl,rfl⟩
   ·exact .inl ⟨by decide+kernel,by decide+kernel⟩
   ·exact .inr ⟨by decide+kernel,by decide+kernel⟩
  refine aY (fun sl M2=>sl= [some (.raw (.ref p)),some (.d (.int (k:Nat))),some (.d (.int (w:Nat))),some (.d (.list [.str u,.str v]))]∧M2=M1) (fun N1 hN1=> ?_) ?_
  ·refine bL (aO ?_)
   refine bB rfl ⟨Nat.le_of_ble_eq_true rfl,?_⟩
   refine bB rfl ⟨Nat.le_of_ble_eq_true rfl,?_⟩
   refine bB rfl ⟨Nat.le_of_ble_eq_true rfl,?_⟩
   refine aO (aG rfl (aN (JK ?_)))
   have ej:((w:Nat):Int)-5=((j:Nat):Int):=by omega
   rw [ej]
   rcases huv with⟨rfl,rfl,rfl⟩|⟨rfl,rfl,rfl⟩
   ·exact bB rfl (hN1 _ _ ⟨rfl,rfl⟩)
   ·exact bB rfl (hN1 _ _ ⟨rfl,rfl⟩)
  rintro sl M2 ⟨rfl,rfl⟩
  refine aY (fun sl M3=>sl= [some (.raw (.ref p)),some (.d (.int (m:Nat))),some (.d (.int (w:Nat))),some (.d (.list [.str u,.str v]))]∧M3=M2) (fun N1 hN1=> ?_) ?_
  ·refine bL (aO (aO (aG rfl ?_)))
   refine aO (aG rfl (aN (JK ?_)))
   refine⟨wide_div (by omega) (b:=60) (by omega) (by decide) (by decide),aN (jE ?_)⟩
   rw [em]
   exact hN1 _ _ ⟨rfl,rfl⟩
  rintro sl M3 ⟨rfl,rfl⟩
  refine cJ (aO (aO (aO (aO (aG rfl (aN (bB rfl ?_)))))))
  refine aG rfl (pG (x:=u) (b:=u.length) (by omega) rfl (by omega) (by omega) fun z1 l1=> ?_)
  refine aN (add_sl ?_ fun z2 l2=> ?_)
  ·rw [l1,x1]
   rcases lu with⟨e1,e2⟩|⟨e1,e2⟩<;>rw [e1]<;>omega
  refine aO (aO (aG rfl (aN (bB rfl ?_))))
  refine aG rfl (pG (x:=v) (b:=v.length) (by omega) rfl (by omega) (by omega) fun z3 l3=> ?_)
  have b1:z2.length+z3.length≤2000:=by
   rw [l2,l1,l3,x1]
   rcases lu with⟨e1,e2⟩|⟨e1,e2⟩<;>rw [e1,e2]<;>omega
  exact add_sl (by omega) fun z4 l4=>fin z4 (by omega)
 rintro sl M2 ⟨rfl,rfl⟩
 refine aY (fun sl M3=>sl= [some (.raw (.ref p)),some (.d (.int (k:Nat))),some (.d (.int (w:Nat))),none]∧M3=M2) (fun N hN=> ?_) ?_
 ·refine hw 0 _ _ _ _ _ rfl ?_ ?_
  rotate_left
  ·exact fun _=>hN _ _ ⟨rfl,rfl⟩
  intro _
  refine cJ (aO (aO (aO (aN (aG rfl (pG (b:=1) (by omega) (by decide+kernel) (by decide) (by decide) fun z1 l1=> ?_))))))
  refine aN (add_sl (by rw [l1,show("1" :Str).length=1 by decide+kernel];omega) fun z2 l2=> ?_)
  rw [l1,show("1" :Str).length=1 by decide+kernel]at l2
  refine aO (aN (aG rfl (pG (b:=1) (by omega) (by decide+kernel) (by decide) (by decide) fun z3 l3=> ?_)))
  exact add_sl (by omega) fun z4 l4=>fin z4 (by omega)
 rintro sl M3 ⟨rfl,rfl⟩
 refine aY (fun sl M4=>sl= [some (.raw (.ref p)),some (.d (.int (k:Nat))),some (.d (.int (w:Nat))),none]∧M4=M3) (fun N hN=> ?_) ?_
 ·refine hw 1 _ _ _ _ _ rfl ?_ ?_
  rotate_left
  ·exact fun _=>hN _ _ ⟨rfl,rfl⟩
  intro _
  refine cJ (aO (aO (aN (aG rfl (pG (b:=4) (by omega) (by decide+kernel) (by decide) (by decide) fun z1 l1=> ?_)))))
  exact aN (add_sl (by rw [l1,x1];omega) fun z2 l2=>fin z2 (by rw [l2,l1,x1];omega))
 rintro sl M4 ⟨rfl,rfl⟩
 refine aY (fun sl M5=>sl= [some (.raw (.ref p)),some (.d (.int (k:Nat))),some (.d (.int (w:Nat))),none]∧M5=M4) (fun N hN=> ?_) ?_
 ·refine hw 2 _ _ _ _ _ rfl ?_ ?_
  rotate_left
  ·exact fun _=>hN _ _ ⟨rfl,rfl⟩
  intro _
  refine cJ (aO (aO (aN (aG rfl (pG (b:=1) (by omega) (by decide+kernel) (by decide) (by decide) fun z1 l1=> ?_)))))
  exact aN (add_sl (by rw [l1,x1];omega) fun z2 l2=>fin z2 (by rw [l2,l1,x1];omega))
 rintro sl M5 ⟨rfl,rfl⟩
 refine aY (fun sl M6=>sl= [some (.raw (.ref p)),some (.d (.int (k:Nat))),some (.d (.int (w:Nat))),none]∧M6=M5) (fun N hN=> ?_) ?_
 ·refine hw 3 _ _ _ _ _ rfl ?_ ?_
  rotate_left
  ·exact fun _=>hN _ _ ⟨rfl,rfl⟩
  intro _
  refine cJ (aO (aO (aN (aG rfl (pG (b:=17) (by omega) (by decide+kernel) (by decide) (by decide) fun z1 l1=> ?_)))))
  exact aN (add_sl (by rw [l1,show("0" :Str).length=1 by decide+kernel];omega) fun z2 l2=>fin z2 (by rw [l2,l1,show("0" :Str).length=1 by decide+kernel];omega))
 rintro sl M6 ⟨rfl,rfl⟩
 have third:((k:Nat):Int)/3=((k/3:Nat):Int):=by omega
 have cd:CDivW ((k:Nat):Int) 3:=wide_div (by decide) (b:=60) (by omega) (by decide) (by decide)
 refine cJ (aO (aO (aO (aN (aO (aG rfl (aN ⟨cd,?_⟩)))))))
 show g2 jd _ (.d (.int (((k:Nat):Int)/3))) _ _
 rw [third]
 refine pG (b:=9) (by omega) (by decide+kernel) (by decide) (by decide) fun z1 l1=> ?_
 refine aN (add_sl (by rw [l1,x1];omega) fun z2 l2=> ?_)
 rw [l1,x1]at l2
 refine aO (aN (aO (aG rfl (aN ⟨cd,?_⟩))))
 show g2 jd _ (.d (.int (((k:Nat):Int)/3))) _ _
 rw [third]
 refine pG (b:=2) (by omega) (by decide+kernel) (by decide) (by decide) fun z3 l3=> ?_
 exact add_sl (by omega) fun z4 l4=>fin z4 (by omega)
theorem ahi {P:Program} {w:World} {K:PySem.W.Frag} {mg:Str→Option Value} {base:Heap} {dV:Value} {f:Addr} {fd:FuncData} (F:dw K "_law_nest" "_law_nest" xK dV f fd) (fX:Def P w K mg base "_law_pick" 2 h_):bM P w K mg base CX0 3 f fd ["source","many"] (dO K Ae):=
 F.data Fy afl Vw (fun cdv A outer s H E hg hr=>
  (aR (bx (i:=2) Fy.nd rfl (by first|exact Or.inl rfl|exact Or.inr rfl) (fX.de hg (hr.mono (by decide)) (by rfl) (aq (au 0) (aq aP aM))))
   (aR (cP (bJ rM (au 2) aP (nomark _)) (aR (bx (i:=3) Fy.nd rfl (by first|exact Or.inl rfl|exact Or.inr rfl) (cH (dZ (aq (dZ (aq aK (aq aK aM))) (aq (dZ (aq aK (aq aK aM))) aM))) (aU zj (au 2) aP)))
   (aR (bx (i:=1) Fy.nd rfl (by first|exact Or.inl rfl|exact Or.inr rfl) (aU bH (aU CP (au 1) (aU zj (au 2) aP)) aP))
   (aW (b_ (aU bH (aU bH (aU kh (cH (au 3) aP) (au 1)) aK) (aU kh (cH (au 3) aP) (au 1))))))) cW)
   (aR (cP (bJ (gj hr) (au 2) aP (nomark _)) (aW (b_ (aU bH (aU bH (aU kh aK (au 1)) aK) (aU kh aK (au 1))))) cW)
   (aR (cP (bJ (gj hr) (au 2) aP (nomark _)) (aW (b_ (aU bH (aU kh aK (au 1)) aK))) cW)
   (aR (cP (bJ (gj hr) (au 2) aP (nomark _)) (aW (b_ (aU bH (aU kh aK (au 1)) aK))) cW)
   (aR (cP (bJ (gj hr) (au 2) aP (nomark _)) (aW (b_ (aU bH (aU kh aK (au 1)) aK))) cW)
   (aW (b_ (aU bH (aU bH (aU kh aK (aU CP (au 1) aP)) aK) (aU kh aK (aU CP (au 1) aP)))))))))))) ahG
abbrev zV:Stmt:=topS 59
abbrev Vp:List Str:= ["source","text","many","way"]
theorem Gj:FnScope Vp ["source"] (defScope zV):=⟨rfl,rfl,rfl,by decide+kernel,rfl,by decide+kernel,by decide+kernel⟩
def yE:dM:=fun xs M R=> ∃(p:Addr),xs= [.raw (.ref p)]∧dH M p∧ ∀(z:Str) M',z.length≤3000→Keeps p M M'→dH M' p→R (.d (.str z)) M'
def W7:bK:=(aQ (aZ 1 (dCall Ae (aj (ao 0) (aj (aA (g2 aX) (dC (.d (.int 18))) (dCall h_ (aj (ao 0) (aj (dC (.d (.int 16))) aH)))) aH))))
 (aQ (aZ 2 (dCall h_ (aj (ao 0) (aj (dC (.d (.int 10))) aH))))
 (aQ (aZ 3 (dCall h_ (aj (ao 0) (aj (dC (.d (.int 6))) aH))))
 (aQ (bZ (dB (aA (g2 eU) (ao 3) (dC (.d (.int 0))))) (bO (aA (g2 aX) (aA (g2 jd) (dC (.d (.str "if x then 1 else "))) (ao 2)) (ao 1))) cV)
 (aQ (bZ (dB (aA (g2 eU) (ao 3) (dC (.d (.int 1))))) (bO (aA (g2 aX) (aA (g2 aX) (aA (g2 jd) (dC (.d (.str "if x then "))) (ao 2)) (ao 1)) (aA (g2 jd) (dC (.d (.str " else 0"))) (ao 2)))) cV)
 (aQ (bZ (dB (aA (g2 eU) (ao 3) (dC (.d (.int 2))))) (bO (aA (g2 aX) (aA (g2 aX) (aA (g2 jd) (dC (.d (.str "if "))) (ao 2)) (ao 1)) (aA (g2 jd) (dC (.d (.str " then 1 else 0"))) (ao 2)))) cV)
 (aQ (bZ (dB (aA (g2 eU) (ao 3) (dC (.d (.int 3))))) (bO (aA (g2 aX) (aA (g2 aX) (aA (g2 jd) (dC (.d (.str "max("))) (ao 2)) (ao 1)) (aA (g2 jd) (dC (.d (.str ", 1)"))) (ao 2)))) cV)
 (bO (aA (g2 aX) (dCall jR (aj (ao 0) (aj (cU (aj (dC (.d (.str ""))) (aj (dC (.d (.str "(1) + "))) (aj (dC (.d (.str "(if x then 1 else 0) + "))) (aj (dC (.d (.str "min(1, 2) * "))) (aj (dC (.d (.str "(not x) - "))) aH)))))) aH))) (ao 1))))))))))
theorem af8: ∀xs M R,yE xs M R→xs.length=1:=by
 rintro xs M R ⟨p,rfl,_⟩
 rfl
theorem afk: ∀xs M R,yE xs M R→W7 {nx:=fun _ M'=>R (.d .none) M',rt:=R} (dD Vp xs) M:=by
 rintro xs M R ⟨p,rfl,hS,h⟩
 refine aY (fun sl M1=> ∃z:Str,z.length≤2000∧sl= [some (.raw (.ref p)),some (.d (.str z)),none,none]∧Keeps p M M1∧dH M1 p) (fun N hN=> ?_) ?_
 ·refine bL (bQ (aJ (aG rfl (aJ (aO (aN ?_))))))
  refine bQ (aJ (aG rfl (aJ (aN (aV ?_)))))
  refine⟨p,_,rfl,by decide,by decide,hS,fun r M1 r0 r1 k1 s1=>jE (aV ?_)⟩
  obtain⟨w,rfl⟩: ∃w:Nat,r=(w:Nat):=⟨r.toNat,by omega⟩
  exact⟨p,18+w,rfl,by omega,by omega,s1,fun z M2 hz k2 s2=>hN _ _ ⟨z,hz,rfl,k1.trans k2,s2⟩⟩
 rintro sl M1 ⟨t,ht,rfl,k1,s1⟩
 refine aY (fun sl M2=> ∃m:Nat,m<10∧sl= [some (.raw (.ref p)),some (.d (.str t)),some (.d (.int (m:Nat))),none]∧Keeps p M M2∧dH M2 p) (fun N hN=> ?_) ?_
 ·refine bL (bQ (aJ (aG rfl (aJ (aN (aV ?_))))))
  refine⟨p,_,rfl,by decide,by decide,s1,fun r M2 r0 r1 k2 s2=> ?_⟩
  obtain⟨w,rfl⟩: ∃w:Nat,r=(w:Nat):=⟨r.toNat,by omega⟩
  exact hN _ _ ⟨w,by omega,rfl,k1.trans k2,s2⟩
 rintro sl M2 ⟨m,hm,rfl,k2,s2⟩
 refine aY (fun sl M3=> ∃w:Nat,sl= [some (.raw (.ref p)),some (.d (.str t)),some (.d (.int (m:Nat))),some (.d (.int (w:Nat)))]∧Keeps p M M3∧dH M3 p) (fun N hN=> ?_) ?_
 ·refine bL (bQ (aJ (aG rfl (aJ (aN (aV ?_))))))
  refine⟨p,_,rfl,by decide,by decide,s2,fun r M3 r0 r1 k3 s3=> ?_⟩
  obtain⟨w,rfl⟩: ∃w:Nat,r=(w:Nat):=⟨r.toNat,by omega⟩
  exact hN _ _ ⟨w,rfl,k2.trans k3,s3⟩
 rintro sl M3 ⟨w,rfl,k3,s3⟩
 have fin: ∀z:Str,z.length≤3000→R (.d (.str z)) M3:=fun z hz=>h z M3 hz k3 s3
 have hw: ∀(c:Nat) (A B:bK) (D:fD) (sl:Slots) (M:Mem),sl[3]? =some (some (.d (.int (w:Nat))))→(w=c→A D sl M)→(w≠c→B D sl M)→bZ (dB (aA (g2 eU) (ao 3) (dC (.d (.int ((c:Nat):Int)))))) A B D sl M:=fun c A B D sl M e h1 h2=>by
  refine dN (bU (aO (aG e (aN (eqI ?_)))))
  exact gq (fun z=>h1 (by omega)) (fun z=>h2 (by omega))
 refine aY (fun sl M4=>sl= [some (.raw (.ref p)),some (.d (.str t)),some (.d (.int (m:Nat))),some (.d (.int (w:Nat)))]∧M4=M3) (fun N hN=> ?_) ?_
 ·refine hw 0 _ _ _ _ _ rfl ?_ ?_
  rotate_left
  ·exact fun _=>hN _ _ ⟨rfl,rfl⟩
  intro _
  refine cJ (aO (aO (aN (aG rfl (pG (b:=17) (by omega) (by decide+kernel) (by decide) (by decide) fun z1 l1=> ?_)))))
  exact aG rfl (add_sl (by omega) fun z2 l2=>fin z2 (by omega))
 rintro sl M4 ⟨rfl,rfl⟩
 have both: ∀(u v:Str) (b c:Nat) (D:fD),D.rt=R→u.length=b→v.length=c→0<b→0<c→b≤20→c≤20→bO (aA (g2 aX) (aA (g2 aX) (aA (g2 jd) (dC (.d (.str u))) (ao 2)) (ao 1)) (aA (g2 jd) (dC (.d (.str v))) (ao 2))) D [some (.raw (.ref p)),some (.d (.str t)),some (.d (.int (m:Nat))),some (.d (.int (w:Nat)))] M4:=by
  intro u v b c D hD hu hv h1 h2 h3 h4
  have e1:m*b≤9*20:=Nat.mul_le_mul (by omega) h3
  have e2:m*c≤9*20:=Nat.mul_le_mul (by omega) h4
  refine cJ (aO (aO (aO (aN (aG rfl (pG (b:=b) (by omega) hu h1 (by omega) fun z1 l1=> ?_))))))
  refine aG rfl (add_sl (by omega) fun z2 l2=> ?_)
  refine aO (aN (aG rfl (pG (b:=c) (by omega) hv h2 (by omega) fun z3 l3=> ?_)))
  refine add_sl (by omega) fun z4 l4=> ?_
  rw [hD]
  exact fin z4 (by omega)
 refine aY (fun sl M5=>sl= [some (.raw (.ref p)),some (.d (.str t)),some (.d (.int (m:Nat))),some (.d (.int (w:Nat)))]∧M5=M4) (fun N hN=> ?_) ?_
 ·refine hw 1 _ _ _ _ _ rfl ?_ ?_
  rotate_left
  ·exact fun _=>hN _ _ ⟨rfl,rfl⟩
  intro _
  exact both _ _ 10 7 _ rfl (by decide+kernel) (by decide+kernel) (by decide) (by decide) (by decide) (by decide)
 rintro sl M5 ⟨rfl,rfl⟩
 refine aY (fun sl M6=>sl= [some (.raw (.ref p)),some (.d (.str t)),some (.d (.int (m:Nat))),some (.d (.int (w:Nat)))]∧M6=M5) (fun N hN=> ?_) ?_
 ·refine hw 2 _ _ _ _ _ rfl ?_ ?_
  rotate_left
  ·exact fun _=>hN _ _ ⟨rfl,rfl⟩
  intro _
  exact both _ _ 3 14 _ rfl (by decide+kernel) (by decide+kernel) (by decide) (by decide) (by decide) (by decide)
 rintro sl M6 ⟨rfl,rfl⟩
 refine aY (fun sl M7=>sl= [some (.raw (.ref p)),some (.d (.str t)),some (.d (.int (m:Nat))),some (.d (.int (w:Nat)))]∧M7=M6) (fun N hN=> ?_) ?_
 ·refine hw 3 _ _ _ _ _ rfl ?_ ?_
  rotate_left
  ·exact fun _=>hN _ _ ⟨rfl,rfl⟩
  intro _
  exact both _ _ 4 4 _ rfl (by decide+kernel) (by decide+kernel) (by decide) (by decide) (by decide) (by decide)
 rintro sl M7 ⟨rfl,rfl⟩
 refine cJ (aO (bQ (aJ (aG rfl (aJ ?_)))))
 refine bB (x:= [.str "",.str "(1) + ",.str "(if x then 1 else 0) + ",.str "min(1, 2) * ",.str "(not x) - "]) rfl ⟨Nat.le_of_ble_eq_true rfl,aV ?_⟩
 refine⟨p,_,rfl,Nat.le_of_ble_eq_true rfl,Nat.le_of_ble_eq_true rfl,s3,fun d M8 hd k8 s8=> ?_⟩
 obtain⟨u,rfl,hu⟩: ∃u:Str,d= .str u∧u.length≤30:=by
  simp only [List.mem_cons,List.not_mem_nil,or_false]at hd
  rcases hd with rfl|rfl|rfl|rfl|rfl<;>exact⟨_,rfl,by decide+kernel⟩
 exact aG rfl (add_sl (by omega) fun z hz=>h z M8 (by omega) (k3.trans k8) s8)
theorem aii {P:Program} {w:World} {K:PySem.W.Frag} {mg:Str→Option Value} {base:Heap} {dV:Value} {f:Addr} {fd:FuncData} (F:dw K "_law_deep" "_law_deep" zV dV f fd) (Mx:Def P w K mg base "_law_nest" 3 Ae) (fX:Def P w K mg base "_law_pick" 2 h_) (jM:Def P w K mg base "_law_choose" 3 jR):bM P w K mg base CX0 4 f fd ["source"] (dO K yE):=
 F.data Gj af8 W7 (fun cdv A outer s H E hg hr=>
  (aR (bx (i:=1) Gj.nd rfl (by first|exact Or.inl rfl|exact Or.inr rfl) (Mx.de hg (hr.mono (by decide)) (by rfl) (aq (au 0) (aq (aU bH aP (fX.de hg (hr.mono (by decide)) (by rfl) (aq (au 0) (aq aP aM)))) aM))))
   (aR (bx (i:=2) Gj.nd rfl (by first|exact Or.inl rfl|exact Or.inr rfl) (fX.de hg (hr.mono (by decide)) (by rfl) (aq (au 0) (aq aP aM))))
   (aR (bx (i:=3) Gj.nd rfl (by first|exact Or.inl rfl|exact Or.inr rfl) (fX.de hg (hr.mono (by decide)) (by rfl) (aq (au 0) (aq aP aM))))
   (aR (cP (bJ (gj hr) (au 3) aP (nomark _)) (aW (b_ (aU bH (aU kh aK (au 2)) (au 1)))) cW)
   (aR (cP (bJ (gj hr) (au 3) aP (nomark _)) (aW (b_ (aU bH (aU bH (aU kh aK (au 2)) (au 1)) (aU kh aK (au 2))))) cW)
   (aR (cP (bJ (gj hr) (au 3) aP (nomark _)) (aW (b_ (aU bH (aU bH (aU kh aK (au 2)) (au 1)) (aU kh aK (au 2))))) cW)
   (aR (cP (bJ (gj hr) (au 3) aP (nomark _)) (aW (b_ (aU bH (aU bH (aU kh aK (au 2)) (au 1)) (aU kh aK (au 2))))) cW)
   (aW (b_ (aU bH (jM.de hg (hr.mono (by decide)) (by rfl) (aq (au 0) (aq (dZ (aq aK (aq aK (aq aK (aq aK (aq aK aM)))))) aM))) (au 1)))))))))))) afk
abbrev zH:Stmt:=topS 58
abbrev Ug:List Str:= ["source","text","at","signs","sign"]
theorem Ew:FnScope Ug ["source","text"] (defScope zH):=⟨rfl,rfl,rfl,by decide+kernel,rfl,by decide+kernel,by decide+kernel⟩
def tU:dM:=fun xs M R=> ∃(p:Addr) (t:Str),xs= [.raw (.ref p),.d (.str t)]∧t.length≤50000∧dH M p∧ ∀(z:Str) M',z.length≤t.length+5000→Keeps p M M'→dH M' p→R (.d (.str z)) M'
theorem ab8 (t:Str) (lo hi:Option Int):(cutS t lo hi).length≤t.length:=by
 rw [str_len,Cq,str_len]
 unfold iH
 rw [List.length_take,List.length_drop]
 omega
theorem agQ (t:Str) (a b:Nat) (h:a≤b):(cutS t none (some (a:Int))).length+(cutS t (some (b:Int)) none).length≤t.length:=by
 rw [str_len,str_len,str_len t,Cq,Cq,K8,Wd,List.length_take,List.length_drop]
 omega
theorem afH {i:Nat} {t:Str} {k:Nat} {te:TD} {sl:Slots} {M:Mem} {R:KD} (e:sl[i]? =some (some (.d (.str t)))) (ht: ∀R:KD,R (.d (.int (k:Nat))) M→te sl M R) (hl:t.length≤1000000) (q:R (.d (.str (cutS t none (some ((k:Nat):Int))))) M):fM (ao i) kJ (eG te) sl M R:=by
 refine aG e ?_
 refine ht _ ?_
 exact⟨small hl,q⟩
def Uq:bK:=(aQ (aZ 2 (dCall h_ (aj (ao 0) (aj (aA (g2 aX) (dCall iw (aj (ao 1) aH)) (dC (.d (.int 1)))) aH))))
 (aQ (aZ 3 (dC (.d (.str " !#$&'()*+,-./0123456789:;<=>?@AZ[]^_az{|}~"))))
 (aQ (aZ 4 (dCall jR (aj (ao 0) (aj (aA (g2 aX) (dCall Xz (aj (ao 3) aH)) (cU (aj (dC (.d (.str "\n"))) (aj (dC (.d (.str "\t"))) (aj (dC (.d (.str "1234567"))) (aj (dC (.d (.str "abcdefghi"))) (aj (dC (.d (.str "01"))) (aj (aA (g2 Di) (dC (.d (.str "7"))) (dC (.d (.int 5000)))) aH)))))))) aH))))
 (bO (aA (g2 aX) (aA (g2 aX) (fM (ao 1) kJ (eG (ao 2))) (ao 4)) (fM (ao 1) (eG (aA (g2 aX) (ao 2) (dCall h_ (aj (ao 0) (aj (dC (.d (.int 2))) aH))))) kJ))))))
theorem agk: ∀xs M R,tU xs M R→xs.length=2:=by
 rintro xs M R ⟨p,t,rfl,_⟩
 rfl
theorem acW: ∀xs M R,tU xs M R→Uq {nx:=fun _ M'=>R (.d .none) M',rt:=R} (dD Ug xs) M:=by
 rintro xs M R ⟨p,t,rfl,ht,hS,h⟩
 refine aY (fun sl M1=> ∃a:Nat,sl= [some (.raw (.ref p)),some (.d (.str t)),some (.d (.int (a:Nat))),none,none]∧Keeps p M M1∧dH M1 p) (fun N hN=> ?_) ?_
 ·refine bL (bQ (aJ (aG rfl (aJ (aO (bQ (aJ (aG rfl (aV ?_)))))))))
  refine⟨by rw [sizeLine_eq];omega,aN (jE (aV ?_))⟩
  refine⟨p,_,rfl,by omega,by omega,hS,fun r M1 r0 r1 k1 s1=> ?_⟩
  obtain⟨a,rfl⟩: ∃a:Nat,r=(a:Nat):=⟨r.toNat,by omega⟩
  exact hN _ _ ⟨a,rfl,k1,s1⟩
 rintro sl M1 ⟨a,rfl,k1,s1⟩
 refine sq (bL (aN ?_))
 refine aY (fun sl M2=> ∃(u:Str) (Zz:Option DV),u.length≤5000∧sl= [some (.raw (.ref p)),some (.d (.str t)),some (.d (.int (a:Nat))),Zz,some (.d (.str u))]∧Keeps p M M2∧dH M2 p) (fun N hN=> ?_) ?_
 ·refine bL (bQ (aJ (aG rfl (aJ (aO (bQ (aJ (aG rfl (aV ?_)))))))))
  refine⟨Nat.le_of_ble_eq_true rfl,?_⟩
  refine aJ (aN (aJ (aN (aJ (aN (aJ (aN (aJ (aN (aJ ?_))))))))))
  refine aO (aN (aN ⟨⟨by decide,by decide,by decide+kernel,by decide+kernel⟩,?_⟩))
  refine aV ?_
  refine dR (ds:= [.str "\n",.str "\t",.str "1234567",.str "abcdefghi",.str "01",.str (Txt.mul "7" 5000)]) ?_
  refine⟨Nat.le_of_ble_eq_true rfl,aV ?_⟩
  refine⟨p,_,rfl,Nat.le_of_ble_eq_true rfl,Nat.le_of_ble_eq_true rfl,s1,fun d M2 hd k2 s2=> ?_⟩
  have l7:(Txt.mul ("7" :Str) 5000).length=5000:=by
   have:=Cv (x:=("7" :Str)) (n:=5000) (by decide+kernel)
   rw [show("7" :Str).length=1 by decide+kernel]at this
   exact this
  obtain⟨u,rfl,hu⟩: ∃u:Str,d= .str u∧u.length≤5000:=by
   rcases List.mem_append.mp hd with hd|hd
   ·obtain⟨c,_,rfl⟩:=List.mem_map.mp hd
    exact⟨_,rfl,by show 1≤5000;decide⟩
   ·simp only [List.mem_cons,List.not_mem_nil,or_false]at hd
    rcases hd with rfl|rfl|rfl|rfl|rfl|rfl
    ·exact⟨_,rfl,by decide+kernel⟩
    ·exact⟨_,rfl,by decide+kernel⟩
    ·exact⟨_,rfl,by decide+kernel⟩
    ·exact⟨_,rfl,by decide+kernel⟩
    ·exact⟨_,rfl,by decide+kernel⟩
    ·exact⟨_,rfl,by rw [l7];exact Nat.le_refl _⟩
  exact hN _ _ ⟨u,_,hu,rfl,k1.trans k2,s2⟩
 rintro sl M2 ⟨u,Zz,hu,rfl,k2,s2⟩
 have c1:=ab8 t none (some ((a:Nat):Int))
 refine cJ (aO (aO (afH (k:=a) rfl (fun R h=>aG rfl h) (by omega) ?_)))
 refine aG rfl (add_sl (by omega) fun z1 l1=> ?_)
 refine aG rfl ?_
 refine aO (aG rfl ?_)
 refine bQ (aJ (aG rfl (aJ (aN (aV ?_)))))
 refine⟨p,_,rfl,by decide,by decide,s2,fun r M3 r0 r1 k3 s3=>jE ?_⟩
 obtain⟨b,rfl⟩: ∃b:Nat,r=(b:Nat):=⟨r.toNat,by omega⟩
 refine⟨small (by omega),?_⟩
 have e:((a:Nat):Int)+((b:Nat):Int)=((a+b:Nat):Int):=by omega
 rw [e]
 have c2:=agQ t a (a+b) (by omega)
 exact add_sl (by omega) fun z2 l2=>h z2 M3 (by omega) (k2.trans k3) s3
theorem agZ {P:Program} {w:World} {K:PySem.W.Frag} {mg:Str→Option Value} {base:Heap} {dV:Value} {f:Addr} {fd:FuncData} (F:dw K "_law_bent" "_law_bent" zH dV f fd) (fX:Def P w K mg base "_law_pick" 2 h_) (jM:Def P w K mg base "_law_choose" 3 jR) (fJ:mg "len" =none) (Mz:mg "list" =none):bM P w K mg base CX0 4 f fd ["source","text"] (dO K tU):=
 F.data Ew agk Uq (fun cdv A outer s H E hg hr=>
  (aR (bx (i:=2) Ew.nd rfl (by first|exact Or.inl rfl|exact Or.inr rfl) (fX.de hg (hr.mono (by decide)) (by rfl) (aq (au 0) (aq (aU bH (gU jJ (by rfl) fJ (by decide+kernel) (aq (au 1) aM)) aP) aM))))
   (aR (bx (i:=3) Ew.nd rfl (by first|exact Or.inl rfl|exact Or.inr rfl) aK)
   (aR (bx (i:=4) Ew.nd rfl (by first|exact Or.inl rfl|exact Or.inr rfl) (jM.de hg (hr.mono (by decide)) (by rfl) (aq (au 0) (aq (aU bH (wD (ail rfl) (by rfl) Mz (by decide+kernel) (aq (au 3) aM)) (dZ (aq aK (aq aK (aq aK (aq aK (aq aK (aq (aU Gz aK aP) aM)))))))) aM))))
   (aW (b_ (aU bH (aU bH (jo (au 1) m_ (gY (au 2))) (au 4)) (jo (au 1) (gY (aU bH (au 2) (fX.de hg (hr.mono (by decide)) (by rfl) (aq (au 0) (aq aP aM))))) m_)))))))) acW
abbrev yX:Stmt:=topS 40
abbrev W6:List Str:= ["found","expected"]
theorem ad9:FnScope W6 ["found","expected"] (defScope yX):=⟨rfl,rfl,rfl,by decide+kernel,rfl,by decide+kernel,by decide+kernel⟩
def Aa:dM:=fun xs M R=> ∃x:PyData,xs= [.d x,.d x]∧WK x∧R (.d (.bool true)) M
def Yq:bK:=(bO (aA (g2 eU) (dCall JR (aj (ao 0) aH)) (dCall JR (aj (ao 1) aH))))
theorem aeD: ∀xs M R,Aa xs M R→xs.length=2:=by
 rintro xs M R ⟨x,rfl,_⟩
 rfl
theorem agW: ∀xs M R,Aa xs M R→Yq {nx:=fun _ M'=>R (.d .none) M',rt:=R} (dD W6 xs) M:=by
 rintro xs M R ⟨x,rfl,⟨h1,h2,h3,h4⟩,h⟩
 refine⟨h1,h2,h3,h4,h1,h2,h3,h4,?_⟩
 show R (.d (.bool (decide (x.shown=x.shown)))) M
 rw [decide_eq_true rfl]
 exact h
theorem agE {P:Program} {w:World} {K:PySem.W.Frag} {mg:Str→Option Value} {base:Heap} {dV:Value} {f:Addr} {fd:FuncData} (F:dw K "_law_equal" "_law_equal" yX dV f fd) (Ip:mg "repr" =none):bM P w K mg base CX0 1 f fd ["found","expected"] (dO K Aa):=
 F.data ad9 aeD Yq (fun cdv A outer s H E hg hr=>
  (aW (b_ (tX (gj hr) (gU (Ua hr hg) (by rfl) Ip (by decide+kernel) (aq (au 0) aM)) (gU (Ua hr hg) (by rfl) Ip (by decide+kernel) (aq (au 1) aM)) (nomark _))))) agW
abbrev yh:Stmt:=topS 45
abbrev Yu:List Str:= ["line","words","letters","digits","tokens","at","end","more","text"]
theorem oJ:FnScope Yu ["line"] (defScope yh):=⟨rfl,rfl,rfl,by decide+kernel,rfl,by decide+kernel,by decide+kernel⟩
def zG:dM:=fun xs M R=> ∃(z:Str) (r:Except Int (List Tk)),xs= [.d (.str z)]∧(sg z).length≤100000∧fH (sg z) (sg z).length 0 []=some r∧
 (∀c x M',r= .error c→MK [] M M'→R (.d (.tuple [x,.int c])) M')∧ ∀ts M',r= .ok ts→MK [] M M'→R (.d (.tuple [.list (ts.map g8),.none])) M'
theorem Ho {x:Str} {l:List Str} {M:Mem} {R:KD} (k:R (.d (.bool (decide (x∈l)))) M):g2 (inD false) (.d (.str x)) (.d (.list (l.map PyData.str))) M R:=⟨Fe _ _,by
 show R (.d (.bool ((l.map PyData.str).any fun y=>PyData.eqv y (.str x)))) M
 rw [Gk]
 exact k⟩
abbrev uV:Str:= "abcdefghijklmnopqrstuvwxyz"
abbrev wC:Str:= "0123456789"
theorem ad4 {p:Nat→Bool} {s:List Nat} {i:Nat}: ∀(k:Nat),k≤rl p (s.drop i)→i+k<s.length→(p (s.getD (i+k) 0)=true↔k<rl p (s.drop i)):=by
 intro k
 induction k generalizing i with
 |zero=>
  intro _ h
  rw [Nat.add_zero]at h ⊢
  rw [vA h]
  cases e:p (s.getD i 0)with
  |true=>rw [pY e];exact⟨fun _=>Nat.succ_pos _,fun _=>rfl⟩
  |false=>rw [Fb e];exact⟨fun z=>(by cases z),fun z=>absurd z (Nat.lt_irrefl 0)⟩
 |succ k ih=>
  intro hk h
  have hi:i<s.length:=by omega
  have ed:=vA hi
  cases e:p (s.getD i 0)with
  |false=>
   rw [ed,Fb e]at hk
   omega
  |true=>
   rw [ed,pY e]at hk ⊢
   have:=ih (i:=i+1) (by omega) (by omega)
   rw [show i+1+k=i+(k+1) by omega]at this
   rw [this]
   omega
theorem agf {acc:List Tk} {t:Tk}:((acc.map g8).map DV.d)++ [.d (g8 t)]=(((acc++ [t]).map g8).map DV.d):=by
 rw [List.map_append,List.map_append]
 rfl
theorem Uu (acc:List Tk):jQ ((acc.map g8).map DV.d)=some (acc.map g8):=by
 induction acc with
 |nil=>rfl
 |cons t acc ih=>
  show(jQ ((acc.map g8).map DV.d)).map _=_
  rw [ih]
  rfl
def Y4:bK:=(aQ (aZ 1 (cU (aj (dC (.d (.str "var"))) (aj (dC (.d (.str "limit"))) (aj (dC (.d (.str "low"))) (aj (dC (.d (.str "high"))) (aj (dC (.d (.str "keep"))) (aj (dC (.d (.str "set"))) (aj (dC (.d (.str "halt"))) (aj (dC (.d (.str "not"))) (aj (dC (.d (.str "and"))) (aj (dC (.d (.str "or"))) (aj (dC (.d (.str "mod"))) (aj (dC (.d (.str "if"))) (aj (dC (.d (.str "then"))) (aj (dC (.d (.str "else"))) aH))))))))))))))))
 (aQ (aZ 1 (aA (g2 aX) (ao 1) (cU (aj (dC (.d (.str "min"))) (aj (dC (.d (.str "max"))) aH)))))
 (aQ (aZ 2 (dC (.d (.str "abcdefghijklmnopqrstuvwxyz"))))
 (aQ (aZ 3 (dC (.d (.str "0123456789"))))
 (aQ (aZ 4 (u_ aH))
 (aQ (aZ 5 (dC (.d (.int 0))))
 (aQ (pC (dB (aA (g2 j8) (ao 5) (dCall iw (aj (ao 0) aH)))) (aQ (aZ 6 (aA (g2 aX) (ao 5) (dC (.d (.int 1)))))
 (aQ (bZ (mD (dB (aA (g2 (inD false)) (aA bf (ao 0) (ao 5)) (ao 2))) (dB (aA (g2 (inD false)) (aA bf (ao 0) (ao 5)) (ao 3)))) (aQ (aZ 7 (jY (dB (aA (g2 (inD false)) (aA bf (ao 0) (ao 5)) (ao 2))) (aA (g2 aX) (ao 2) (ao 3)) (ao 3)))
 (pC (jG (dB (aA (g2 j8) (ao 6) (dCall iw (aj (ao 0) aH)))) (dB (aA (g2 (inD false)) (aA bf (ao 0) (ao 6)) (ao 7)))) (aZ 6 (aA (g2 aX) (ao 6) (dC (.d (.int 1))))))) (bZ (dB (aA (g2 (inD false)) (fM (ao 0) (eG (ao 5)) (eG (aA (g2 aX) (ao 5) (dC (.d (.int 2)))))) (cU (aj (dC (.d (.str ".."))) (aj (dC (.d (.str ":="))) (aj (dC (.d (.str "!="))) (aj (dC (.d (.str "<="))) (aj (dC (.d (.str ">="))) aH)))))))) (aZ 6 (aA (g2 aX) (ao 5) (dC (.d (.int 2))))) cV))
 (aQ (aZ 8 (fM (ao 0) (eG (ao 5)) (eG (ao 6))))
 (aQ (bZ (dB (aA (g2 (inD false)) (ao 8) (ao 1))) (mZ (ao 4) (dTup (aj (dC (.d (.str "word"))) (aj (ao 8) (aj (aA (g2 aX) (ao 5) (dC (.d (.int 1)))) aH))))) (bZ (jG (dB (aA (g2 (inD false)) (aA bf (ao 8) (dC (.d (.int 0)))) (ao 2))) (dB (aA (g2 j8) (dCall iw (aj (ao 8) aH)) (dC (.d (.int 9)))))) (mZ (ao 4) (dTup (aj (dC (.d (.str "name"))) (aj (ao 8) (aj (aA (g2 aX) (ao 5) (dC (.d (.int 1)))) aH))))) (bZ (jG (dB (aA (g2 (inD false)) (aA bf (ao 8) (dC (.d (.int 0)))) (ao 3))) (jG (dB (aA (g2 j8) (dCall iw (aj (ao 8) aH)) (dC (.d (.int 7))))) (mD (dB (aA (g2 eU) (ao 8) (dC (.d (.str "0"))))) (dB (aA (g2 jC) (aA bf (ao 8) (dC (.d (.int 0)))) (dC (.d (.str "0")))))))) (mZ (ao 4) (dTup (aj (dC (.d (.str "number"))) (aj (ao 8) (aj (aA (g2 aX) (ao 5) (dC (.d (.int 1)))) aH))))) (bZ (dB (aA (g2 (inD false)) (ao 8) (cU (aj (dC (.d (.str ".."))) (aj (dC (.d (.str ":="))) (aj (dC (.d (.str "!="))) (aj (dC (.d (.str "<="))) (aj (dC (.d (.str ">="))) (aj (dC (.d (.str "+"))) (aj (dC (.d (.str "-"))) (aj (dC (.d (.str "*"))) (aj (dC (.d (.str "="))) (aj (dC (.d (.str "<"))) (aj (dC (.d (.str ">"))) (aj (dC (.d (.str "("))) (aj (dC (.d (.str ")"))) (aj (dC (.d (.str ","))) aH))))))))))))))))) (mZ (ao 4) (dTup (aj (dC (.d (.str "symbol"))) (aj (ao 8) (aj (aA (g2 aX) (ao 5) (dC (.d (.int 1)))) aH))))) (bZ (dB (aA (g2 jC) (ao 8) (dC (.d (.str " "))))) (uo 4 (bO (dTup (aj (ao 4) (aj (aA (g2 aX) (ao 5) (dC (.d (.int 1)))) aH))))) cV)))))
 (aQ (bZ (dB (aA (g2 (jX fun i j=>decide (j<i))) (dCall iw (aj (ao 4) aH)) (dC (.d (.int 120))))) (uo 4 (bO (dTup (aj (ao 4) (aj (aA (g2 aX) (ao 5) (dC (.d (.int 1)))) aH))))) cV)
 (aZ 5 (ao 6))))))))
 (uo 4 (bO (dTup (aj (aA (g2 aX) (ao 4) (cU (aj (dTup (aj (dC (.d (.str "end"))) (aj (dC (.d (.str ""))) (aj (aA (g2 aX) (dCall iw (aj (ao 0) aH)) (dC (.d (.int 1)))) aH)))) aH))) (aj (dC (.d .none)) aH))))))))))))
theorem afU {i j k:Nat} {t:Str} {a b:Nat} {sl:Slots} {M:Mem} {R:KD} (e0:sl[i]? =some (some (.d (.str t)))) (e1:sl[j]? =some (some (.d (.int (a:Nat))))) (e2:sl[k]? =some (some (.d (.int (b:Nat))))) (hl:t.length≤1000000) (q:R (.d (.str (cutS t (some ((a:Nat):Int)) (some ((b:Nat):Int))))) M):fM (ao i) (eG (ao j)) (eG (ao k)) sl M R:=by
 refine aG e0 ?_
 refine aG e1 ?_
 refine aG e2 ?_
 exact⟨small hl,q⟩
abbrev lH (z:Str) (q:Addr) (i:Nat) (u6 u7 u8:Option DV):Slots:= [some (.d (.str z)),some (.d (.list (eO.map PyData.str))),some (.d (.str uV)),some (.d (.str wC)),some (.raw (.ref q)),some (.d (.int (i:Nat))),u6,u7,u8]
def agF:bK:=pC (jG (dB (aA (g2 j8) (ao 6) (dCall iw (aj (ao 0) aH)))) (dB (aA (g2 (inD false)) (aA bf (ao 0) (ao 6)) (ao 7)))) (aZ 6 (aA (g2 aX) (ao 6) (dC (.d (.int 1)))))
theorem Zr {z:Str} {q:Addr} {i:Nat} {M:Mem} (zl:z.length=(sg z).length) (hz:(sg z).length≤100000) (hil:i<(sg z).length) (p:Nat→Bool) (S:Str) (u8:Option DV) (D:fD) (hp: ∀c,decide (c∈sg S)=p c) (h1:0<rl p ((sg z).drop i)) (he:g_ (sg z) i=i+rl p ((sg z).drop i)) (hD:D.nx (lH z q i (some (.d (.int (g_ (sg z) i:Nat)))) (some (.d (.str S))) u8) M):
  agF D (lH z q i (some (.d (.int ((i+1:Nat))))) (some (.d (.str S))) u8) M:=by
 have hle:=Jr p ((sg z).drop i)
 rw [List.length_drop]at hle
 refine⟨fun v sl M'=> ∃e:Nat,sl= [some (.d (.str z)),some (.d (.list (eO.map PyData.str))),some (.d (.str uV)),some (.d (.str wC)),some (.raw (.ref q)),some (.d (.int (i:Nat))),some (.d (.int (e:Nat))),some (.d (.str S)),u8]∧i+1≤e∧e≤i+rl p ((sg z).drop i)∧v=i+rl p ((sg z).drop i)-e∧M'=M,⟨_,i+1,rfl,Nat.le_refl _,by omega,rfl,rfl⟩,?_⟩
 rintro v sl M' ⟨e,rfl,g1,g2',hv,rfl⟩
 refine pA (bU (aO (aG rfl ?_)))
 refine bQ (aJ (aG rfl (aV ⟨small (by omega),?_⟩)))
 show if decide (((e:Nat):Int)<((z.length:Nat):Int))=true then _ else _
 refine gq (fun hlt=> ?_) (fun hge=> ?_)
 ·have hel:e<(sg z).length:=by omega
  refine bU (aO (aO (aG rfl (aG rfl (qC (by omega) hel (aG rfl (oK ?_)))))))
  rw [hp]
  have hk:=ad4 (p:=p) (s:=sg z) (i:=i) (e-i) (by omega) (by omega)
  rw [show i+(e-i)=e by omega]at hk
  cases hc:p ((sg z).getD e 0)with
  |true=>
   have:=hk.mp hc
   refine cG rfl (bL (aO (aG rfl (aN (jE ?_)))))
   exact⟨v-1,by omega,e+1,rfl,by omega,by omega,by omega,rfl⟩
  |false=>
   have hn: ¬e-i<rl p ((sg z).drop i):=fun q=>by
    have:=hk.mpr q
    rw [hc]at this
    cases this
   refine bW rfl ?_
   rw [he,show i+rl p ((sg z).drop i)=e by omega]at hD
   exact hD
 ·refine bW rfl ?_
  rw [he,show i+rl p ((sg z).drop i)=e by omega]at hD
  exact hD
def agx:bK:=bZ (mD (dB (aA (g2 (inD false)) (aA bf (ao 0) (ao 5)) (ao 2))) (dB (aA (g2 (inD false)) (aA bf (ao 0) (ao 5)) (ao 3)))) (aQ (aZ 7 (jY (dB (aA (g2 (inD false)) (aA bf (ao 0) (ao 5)) (ao 2))) (aA (g2 aX) (ao 2) (ao 3)) (ao 3)))
 (pC (jG (dB (aA (g2 j8) (ao 6) (dCall iw (aj (ao 0) aH)))) (dB (aA (g2 (inD false)) (aA bf (ao 0) (ao 6)) (ao 7)))) (aZ 6 (aA (g2 aX) (ao 6) (dC (.d (.int 1))))))) (bZ (dB (aA (g2 (inD false)) (fM (ao 0) (eG (ao 5)) (eG (aA (g2 aX) (ao 5) (dC (.d (.int 2)))))) (cU (aj (dC (.d (.str ".."))) (aj (dC (.d (.str ":="))) (aj (dC (.d (.str "!="))) (aj (dC (.d (.str "<="))) (aj (dC (.d (.str ">="))) aH)))))))) (aZ 6 (aA (g2 aX) (ao 5) (dC (.d (.int 2))))) cV)
theorem acI {z:Str} {q:Addr} {i:Nat} {M:Mem} {u7 u8:Option DV} {D:fD} (zl:z.length=(sg z).length) (hz:(sg z).length≤100000) (hil:i<(sg z).length) (hD: ∀u7,D.nx (lH z q i (some (.d (.int (g_ (sg z) i:Nat)))) u7 u8) M):
  agx D (lH z q i (some (.d (.int ((i+1:Nat))))) u7 u8) M:=by
 refine dN (tV ?_)
 refine bU (aO (aO ?_))
 refine aG rfl (aG rfl ?_)
 refine qC (by omega) hil ?_
 refine aG rfl (oK ?_)
 rw [show decide ((sg z).getD i 0∈sg uV)=eX ((sg z).getD i 0)from xP _]
 have ed:=vA hil
 cases hs:eX ((sg z).getD i 0)with
 |true=>
  refine cG rfl (cG rfl ?_)
  refine sq (bL (oG ?_))
  refine bU (aO (aO ?_))
  refine aG rfl (aG rfl ?_)
  refine qC (by omega) hil ?_
  refine aG rfl (oK ?_)
  rw [show decide ((sg z).getD i 0∈sg uV)=eX ((sg z).getD i 0)from xP _,hs]
  refine cG rfl (aO (aG rfl (aG rfl ⟨Nat.le_of_ble_eq_true rfl,?_⟩)))
  refine Zr zl hz hil gK (uV++wC) u8 D Mj ?_ ?_ (hD _)
  ·rw [ed,pY (by show(eX _||cO _)=true;rw [hs];rfl)]
   omega
  ·unfold g_
   rw [if_pos (by rw [hs];rfl),if_pos hs]
 |false=>
  refine bW rfl ?_
  refine bU (aO (aO ?_))
  refine aG rfl (aG rfl ?_)
  refine qC (by omega) hil ?_
  refine aG rfl (oK ?_)
  rw [show decide ((sg z).getD i 0∈sg wC)=cO ((sg z).getD i 0)from z9 _]
  cases hd:cO ((sg z).getD i 0)with
  |true=>
   refine cG rfl ?_
   refine sq (bL (oG ?_))
   refine bU (aO (aO ?_))
   refine aG rfl (aG rfl ?_)
   refine qC (by omega) hil ?_
   refine aG rfl (oK ?_)
   rw [show decide ((sg z).getD i 0∈sg uV)=eX ((sg z).getD i 0)from xP _,hs]
   refine bW rfl (aG rfl ?_)
   refine Zr zl hz hil cO wC u8 D z9 ?_ ?_ (hD _)
   ·rw [ed,pY hd]
    omega
   ·unfold g_
    rw [if_pos (by rw [hd,hs];rfl),if_neg (by rw [hs];decide)]
  |false=>
   have we:g_ (sg z) i=if tx (((sg z).drop i).take 2)∈qI then i+2 else i+1:=by
    unfold g_
    rw [if_neg (by rw [hd,hs];decide)]
   rw [we]at hD
   refine bW rfl (dN (bU (aO ?_)))
   refine aG rfl ?_
   refine aG rfl ?_
   refine aO (aG rfl (aN (jE ?_)))
   refine⟨small (by omega),?_⟩
   have e2:((i:Nat):Int)+2=((i+2:Nat):Int):=by omega
   rw [e2,Cr,Nat.add_sub_cancel_left]
   refine bB (x:=qI.map PyData.str) rfl ⟨Nat.le_of_ble_eq_true rfl,Ho ?_⟩
   by_cases h2:tx (((sg z).drop i).take 2)∈qI
   ·rw [if_pos h2]at hD
    refine cG (decide_eq_true h2) (bL (aO (aG rfl (aN (jE ?_)))))
    exact hD _
   ·rw [if_neg h2]at hD
    exact bW (decide_eq_false h2) (hD _)
def ahO:bK:=bZ (dB (aA (g2 (inD false)) (ao 8) (ao 1))) (mZ (ao 4) (dTup (aj (dC (.d (.str "word"))) (aj (ao 8) (aj (aA (g2 aX) (ao 5) (dC (.d (.int 1)))) aH))))) (bZ (jG (dB (aA (g2 (inD false)) (aA bf (ao 8) (dC (.d (.int 0)))) (ao 2))) (dB (aA (g2 j8) (dCall iw (aj (ao 8) aH)) (dC (.d (.int 9)))))) (mZ (ao 4) (dTup (aj (dC (.d (.str "name"))) (aj (ao 8) (aj (aA (g2 aX) (ao 5) (dC (.d (.int 1)))) aH))))) (bZ (jG (dB (aA (g2 (inD false)) (aA bf (ao 8) (dC (.d (.int 0)))) (ao 3))) (jG (dB (aA (g2 j8) (dCall iw (aj (ao 8) aH)) (dC (.d (.int 7))))) (mD (dB (aA (g2 eU) (ao 8) (dC (.d (.str "0"))))) (dB (aA (g2 jC) (aA bf (ao 8) (dC (.d (.int 0)))) (dC (.d (.str "0")))))))) (mZ (ao 4) (dTup (aj (dC (.d (.str "number"))) (aj (ao 8) (aj (aA (g2 aX) (ao 5) (dC (.d (.int 1)))) aH))))) (bZ (dB (aA (g2 (inD false)) (ao 8) (cU (aj (dC (.d (.str ".."))) (aj (dC (.d (.str ":="))) (aj (dC (.d (.str "!="))) (aj (dC (.d (.str "<="))) (aj (dC (.d (.str ">="))) (aj (dC (.d (.str "+"))) (aj (dC (.d (.str "-"))) (aj (dC (.d (.str "*"))) (aj (dC (.d (.str "="))) (aj (dC (.d (.str "<"))) (aj (dC (.d (.str ">"))) (aj (dC (.d (.str "("))) (aj (dC (.d (.str ")"))) (aj (dC (.d (.str ","))) aH))))))))))))))))) (mZ (ao 4) (dTup (aj (dC (.d (.str "symbol"))) (aj (ao 8) (aj (aA (g2 aX) (ao 5) (dC (.d (.int 1)))) aH))))) (bZ (dB (aA (g2 jC) (ao 8) (dC (.d (.str " "))))) (uo 4 (bO (dTup (aj (ao 4) (aj (aA (g2 aX) (ao 5) (dC (.d (.int 1)))) aH))))) cV))))
theorem Wn {z:Str} {q:Addr} {i:Nat} {M:Mem} {u6 u7 u8:Option DV} {D:fD} {acc:List Tk} (hM:M q=some (.lst ((acc.map g8).map DV.d))) (hE:D.rt (.d (.tuple [.list (acc.map g8),.int ((i:Int)+1)])) (cZ M q)):uo 4 (bO (dTup (aj (ao 4) (aj (aA (g2 aX) (ao 5) (dC (.d (.int 1)))) aH)))) D (lH z q i u6 u7 u8) M:=by
 refine eV hM (bB (Uu acc) ?_)
 refine cJ (aJ (aG rfl (aJ (aO (aG rfl (aN (jE (aV ?_))))))))
 exact dR (ds:= [.list (acc.map g8),.int ((i:Int)+1)]) hE
theorem ag1 {z:Str} {q:Addr} {i:Nat} {M:Mem} {u6 u7:Option DV} {D:fD} {acc:List Tk} {k t:Str} (hM:M q=some (.lst ((acc.map g8).map DV.d))) (hl:acc.length≤120) (hD:D.nx (lH z q i u6 u7 (some (.d (.str t)))) (bD M q (.lst (((acc++ [(⟨k,t,(i:Int)+1⟩:Tk)]).map g8).map DV.d)))):mZ (ao 4) (dTup (aj (dC (.d (.str k))) (aj (ao 8) (aj (aA (g2 aX) (ao 5) (dC (.d (.int 1)))) aH)))) D (lH z q i u6 u7 (some (.d (.str t)))) M:=by
 refine Yi (aG rfl (eV hM ?_))
 refine aJ (aN (aJ (aG rfl (aJ (aO (aG rfl (aN (jE (aV ?_)))))))))
 refine dR (ds:= [.str k,.str t,.int ((i:Int)+1)]) ?_
 refine eV hM ⟨by rw [List.length_map,List.length_map,sizeLine_eq];omega,?_⟩
 rw [←agf]at hD
 exact hD
theorem ab0 {z:Str} {q:Addr} {i:Nat} {M:Mem} {u6 u7:Option DV} {D:fD} {acc:List Tk} (zl:z.length=(sg z).length) (hz:(sg z).length≤100000) (hil:i<(sg z).length) (hM:M q=some (.lst ((acc.map g8).map DV.d))) (hl:acc.length≤120)
  (hY: ∀k,kW ((sg z).getD i 0) (cR (sg z) i)=some k→D.nx (lH z q i u6 u7 (some (.d (.str (cR (sg z) i))))) (bD M q (.lst (((acc++ [(⟨k,cR (sg z) i,(i:Int)+1⟩:Tk)]).map g8).map DV.d))))
  (hS:(sg z).getD i 0=32→D.nx (lH z q i u6 u7 (some (.d (.str (cR (sg z) i))))) M)
  (hE:(sg z).getD i 0≠32→kW ((sg z).getD i 0) (cR (sg z) i)=none→D.rt (.d (.tuple [.list (acc.map g8),.int ((i:Int)+1)])) (cZ M q)):
  ahO D (lH z q i u6 u7 (some (.d (.str (cR (sg z) i))))) M:=by
 obtain⟨l1,l2,⟨tr,l3⟩,l4,l5⟩:=Zj hil
 have wl:(cR (sg z) i).length≤(sg z).length:=by
  rw [str_len]
  show(((sg z).drop i).take _).length≤_
  rw [List.length_take,List.length_drop]
  omega
 generalize hc:(sg z).getD i 0=c at*
 generalize ht:cR (sg z) i=t at*
 have put: ∀(k:Str),kW c t=some k→mZ (ao 4) (dTup (aj (dC (.d (.str k))) (aj (ao 8) (aj (aA (g2 aX) (ao 5) (dC (.d (.int 1)))) aH)))) D (lH z q i u6 u7 (some (.d (.str t)))) M:=fun k hk=>ag1 hM hl (hY k hk)
 have ek:kW c t=if t∈eO then some ("word" :Str)else if eX c=true∧(sg t).length<9 then some ("name" :Str)else if cO c=true∧(sg t).length<7∧(t= "0" ∨c≠48)then some ("number" :Str)else if t∈jB then some ("symbol" :Str)else none:=by unfold kW;rfl
 have tl:t.length=(sg t).length:=str_len _
 have fst: ∀{K:KD} {M:Mem},K (.d (.str ⟨#[c]⟩)) M→bf (.d (.str t)) (.d (.int 0)) M K:=fun {K M} h=>by
  have:=qC (z:=t) (i:=0) (M:=M) (R:=K) (by omega) (by rw [l3];simp) (by rw [l3];exact h)
  exact this
 refine dN (bU (aO (aG rfl (aG rfl (Ho ?_)))))
 refine gq (fun h1=>put "word" (by rw [ek,if_pos h1])) (fun h1=> ?_)
 rw [if_neg h1]at ek
 
 refine dN (pA ?_)
 refine bU (aO (aO ?_))
 refine aG rfl (aN (fst ?_))
 refine aG rfl (oK ?_)
 rw [show decide (c∈sg uV)=eX c from xP _]
 have aiD: ∀(A B:bK) (sl:Slots),(eX c=true∧(sg t).length<9→A D sl M)→(¬(eX c=true∧(sg t).length<9)→B D sl M)→sl[8]? =some (some (.d (.str t)))→if eX c=true then dB (aA (g2 j8) (dCall iw (aj (ao 8) aH)) (dC (.d (.int 9)))) sl M (fun k M1=>if k=true then A D sl M1 else B D sl M1)else(if false=true then A D sl M else B D sl M):=by
  intro A B sl hA hB h8
  cases hs:eX c with
  |false=>exact bW rfl (bW rfl (hB fun q=>by rw [hs]at q;cases q.1))
  |true=>
   refine cG rfl (bU (aO (bQ (aJ (aG h8 (aV ⟨small (by omega),aN ?_⟩))))))
   show if decide (((t.length:Nat):Int)<9)=true then _ else _
   exact gq (fun q=>hA ⟨hs,by omega⟩) (fun q=>hB fun w=>q (by have:=w.2;omega))
 refine aiD _ _ _ (fun h2=>put "name" (by rw [ek,if_pos h2])) (fun h2=> ?_) rfl
 rw [if_neg h2]at ek
 
 have num: ∀(A B:bK),(cO c=true∧(sg t).length<7∧(t= "0" ∨c≠48)→A D (lH z q i u6 u7 (some (.d (.str t)))) M)→(¬(cO c=true∧(sg t).length<7∧(t= "0" ∨c≠48))→B D (lH z q i u6 u7 (some (.d (.str t)))) M)→
   bZ (jG (dB (aA (g2 (inD false)) (aA bf (ao 8) (dC (.d (.int 0)))) (ao 3))) (jG (dB (aA (g2 j8) (dCall iw (aj (ao 8) aH)) (dC (.d (.int 7))))) (mD (dB (aA (g2 eU) (ao 8) (dC (.d (.str "0"))))) (dB (aA (g2 jC) (aA bf (ao 8) (dC (.d (.int 0)))) (dC (.d (.str "0")))))))) A B D (lH z q i u6 u7 (some (.d (.str t)))) M:=by
  intro A B hA hB
  refine dN (pA ?_)
  refine bU (aO (aO ?_))
  refine aG rfl (aN (fst ?_))
  refine aG rfl (oK ?_)
  rw [show decide (c∈sg wC)=cO c from z9 _]
  cases hd:cO c with
  |false=>exact bW rfl (bW rfl (hB fun q=>by rw [hd]at q;cases q.1))
  |true=>
   refine cG rfl (pA (bU (aO (bQ (aJ (aG rfl (aV ⟨small (by omega),aN ?_⟩)))))))
   show if decide (((t.length:Nat):Int)<7)=true then _ else _
   refine gq (fun q7=> ?_) (fun q7=>bW rfl (hB fun w=>q7 (by have:=w.2.1;omega)))
   refine tV (bU (aO (aG rfl (aN (eq_str ?_)))))
   refine gq (fun q0=>cG rfl (hA ⟨hd,by omega,.inl q0⟩)) (fun q0=> ?_)
   refine bU (aO (aO (aG rfl (aN (fst (aN (ne_str ?_)))))))
   rw [sign_eq (n:=48) (by decide+kernel)]
   by_cases q48:c=48
   ·rw [decide_eq_true q48]
    exact bW rfl (hB fun w=>w.2.2.elim q0 fun e=>e q48)
   ·rw [decide_eq_false q48]
    exact cG rfl (hA ⟨hd,by omega,.inr q48⟩)
 refine num _ _ (fun h3=>put "number" (by rw [ek,if_pos h3])) (fun h3=> ?_)
 rw [if_neg h3]at ek
 
 refine dN (bU (aO (aG rfl ?_)))
 refine bB (x:=jB.map PyData.str) rfl ⟨Nat.le_of_ble_eq_true rfl,Ho ?_⟩
 refine gq (fun h4=>put "symbol" (by rw [ek,if_pos h4])) (fun h4=> ?_)
 rw [if_neg h4]at ek
 refine dN (bU (aO (aG rfl (aN (ne_str ?_)))))
 by_cases c32:c=32
 ·rw [decide_eq_true (l4 c32).1]
  exact bW rfl (hS c32)
 ·rw [decide_eq_false (l5 c32).1]
  exact cG rfl (Wn hM (hE c32 ek))
theorem afA: ∀xs M R,zG xs M R→xs.length=1:=by
 rintro xs M R ⟨z,r,rfl,_⟩
 rfl
theorem ahA: ∀xs M R,zG xs M R→Y4 {nx:=fun _ M'=>R (.d .none) M',rt:=R} (dD Yu xs) M:=by
 rintro xs M R ⟨z,r,rfl,hz,hr,hX,hR⟩
 have zl:=str_len z
 have words:(PyData.list (eO.map PyData.str))= .list ((eO.take 14).map PyData.str++(eO.drop 14).map PyData.str):=rfl
 refine aY (fun sl M1=>sl= [some (.d (.str z)),some (.d (.list ((eO.take 14).map PyData.str))),none,none,none,none,none,none,none]∧M1=M) (fun N hN=> ?_) ?_
 ·refine bL ?_
  exact bB (x:=(eO.take 14).map PyData.str) rfl ⟨Nat.le_of_ble_eq_true rfl,hN _ _ ⟨rfl,rfl⟩⟩
 rintro sl M1 ⟨rfl,rfl⟩
 refine sq (bL (aO (aG rfl ?_)))
 refine bB (x:=(eO.drop 14).map PyData.str) rfl ⟨Nat.le_of_ble_eq_true rfl,?_⟩
 refine⟨Nat.le_of_ble_eq_true rfl,?_⟩
 refine sq (bL (aN ?_))
 refine sq (bL (aN ?_))
 refine sq (bL ?_)
 refine⟨Nat.le_of_ble_eq_true rfl,fun q nq=> ?_⟩
 refine sq (bL (aN ?_))
 have at_end: ∀{i:Nat},¬i<(sg z).length→ ∀n acc,fH (sg z) n i acc=some (.ok (acc++ [⟨"end","",((sg z).length:Int)+1⟩])):=fun h n acc=>rE h
 
 refine aY (fun sl M2=> ∃(acc:List Tk) (jN lB ZC ZD Dy Dz eZ:Option DV),sl= [some (.d (.str z)),jN,lB,ZC,some (.raw (.ref q)),ZD,Dy,Dz,eZ]∧M2 q=some (.lst ((acc.map g8).map DV.d))∧acc.length≤120∧r= .ok (acc++ [⟨"end","",((sg z).length:Int)+1⟩])∧MK [q] M1 M2) (fun N hN=> ?_) ?_
 ·refine⟨fun w sl M2=> ∃(i n:Nat) (acc:List Tk) (Dy Dz eZ:Option DV),sl= [some (.d (.str z)),some (.d (.list (eO.map PyData.str))),some (.d (.str uV)),some (.d (.str wC)),some (.raw (.ref q)),some (.d (.int (i:Nat))),Dy,Dz,eZ]∧i≤(sg z).length∧M2 q=some (.lst ((acc.map g8).map DV.d))∧acc.length≤120∧fH (sg z) n i acc=some r∧MK [q] M1 M2∧w=(sg z).length-i,⟨_,0,_,[],_,_,_,rfl,Nat.zero_le _,cY,Nat.zero_le _,hr,lO,rfl⟩,?_⟩
  rintro w sl M2 ⟨i,n,acc,Dy,Dz,eZ,rfl,hi,hM2,hacc,hlx,k2,hw⟩
  refine bU (aO (aG rfl ?_))
  refine bQ (aJ (aG rfl (aV ⟨small (by omega),?_⟩)))
  show if decide (((i:Nat):Int)<((z.length:Nat):Int))=true then _ else _
  refine gq (fun hlt=> ?_) (fun hge=> ?_)
  rotate_left
  ·rw [at_end (by omega) n acc]at hlx
   exact hN _ _ ⟨acc,_,_,_,_,_,_,_,rfl,hM2,hacc,(Option.some.inj hlx).symm,k2⟩
  have hil:i<(sg z).length:=by omega
  obtain⟨l1,l2,⟨tr,l3⟩,l4,l5⟩:=Zj hil
  
  refine sq (bL (aO (aG rfl (aN (jE ?_)))))
  have e1:((i:Nat):Int)+1=((i+1:Nat):Int):=by omega
  rw [e1]
  
  refine aY (fun sl M3=> ∃u7 u8,sl=lH z q i (some (.d (.int (g_ (sg z) i:Nat)))) u7 u8∧M3=M2) (fun N1 hN1=> ?_) ?_
  ·exact acI zl hz hil fun u7=>hN1 _ _ ⟨_,_,rfl,rfl⟩
  rintro sl M3 ⟨u7,u8,rfl,rfl⟩
  
  refine sq (bL (afU (t:=z) (a:=i) (b:=g_ (sg z) i) rfl rfl rfl (by omega) ?_))
  have ew:cutS z (some ((i:Nat):Int)) (some ((g_ (sg z) i:Nat):Int))=cR (sg z) i:=Cr z i _
  rw [ew]
  have wl:(cR (sg z) i).length≤(sg z).length:=by
   rw [str_len]
   show(((sg z).drop i).take _).length≤_
   rw [List.length_take,List.length_drop]
   omega
  have aiE:(sg (cR (sg z) i)).length=g_ (sg z) i-i:=by
   show(((sg z).drop i).take _).length=_
   rw [List.length_take,List.length_drop]
   omega
  obtain⟨n,rfl⟩: ∃n',n=n'+1:=by
   cases n with
   |zero=>
    unfold fH at hlx
    rw [if_pos hil]at hlx
    cases hlx
   |succ n=>exact⟨n,rfl⟩
  unfold fH at hlx
  rw [if_pos hil]at hlx
  
  have dl: ∀{M4:Mem},MK [q] M1 M4→MK [] M1 (cZ M4 q):=fun k4 b o e _=>by
   have hb:b≠q:=fun h=>by rw [h,nq]at e;cases e
   rw [m9 hb]
   exact k4 b o e (by simpa using hb)
  refine aY (fun sl M4=> ∃(acc':List Tk) (u7 u8:Option DV),sl=lH z q i (some (.d (.int (g_ (sg z) i:Nat)))) u7 u8∧M4 q=some (.lst ((acc'.map g8).map DV.d))∧acc'.length≤121∧MK [q] M1 M4∧(120<acc'.length→r= .error ((i:Int)+1))∧(acc'.length≤120→fH (sg z) n (g_ (sg z) i) acc'=some r)) (fun N1 hN1=> ?_) ?_
  ·refine ab0 zl hz hil hM2 hacc (fun k hk=> ?_) (fun c32=> ?_) (fun c32 hk=> ?_)
   ·have c32:(sg z).getD i 0≠32:=fun h=>by
     have:=(l4 h).2.1
     rw [hk]at this
     cases this
    have hT:=(l5 c32).2
    rw [hk]at hT
    have hT:iV (sg z) i= .ok ⟨k,cR (sg z) i,(i:Int)+1⟩:=hT
    rw [if_neg c32,hT]at hlx
    have hlx:(if acc.length=120 then some (.error ((i:Int)+1))else fH (sg z) n (i+(sg (cR (sg z) i)).length) (acc++ [⟨k,cR (sg z) i,(i:Int)+1⟩]))=some r:=hlx
    refine hN1 _ _ ⟨acc++ [⟨k,cR (sg z) i,(i:Int)+1⟩],_,_,rfl,cY,?_,k2.trans lO,fun h=> ?_,fun h=> ?_⟩
    ·rw [List.length_append,List.length_singleton]
     omega
    ·rw [List.length_append,List.length_singleton]at h
     rw [if_pos (by omega)]at hlx
     exact(Option.some.inj hlx).symm
    ·rw [List.length_append,List.length_singleton]at h
     rw [if_neg (by omega),aiE,show i+(g_ (sg z) i-i)=g_ (sg z) i by omega]at hlx
     exact hlx
   ·rw [if_pos c32]at hlx
    refine hN1 _ _ ⟨acc,_,_,rfl,hM2,by omega,k2,fun h=>by omega,fun _=> ?_⟩
    rw [(l4 c32).2.2]
    exact hlx
   ·have hT:=(l5 c32).2
    rw [hk]at hT
    have hT:iV (sg z) i= .error ((i:Int)+1):=hT
    rw [if_neg c32,hT]at hlx
    exact hX _ _ _ (Option.some.inj hlx).symm (dl k2)
  rintro sl M4 ⟨acc',u7',u8',rfl,hM4,hl4,k4,g1,g2'⟩
  
  refine aY (fun sl M5=>sl=lH z q i (some (.d (.int (g_ (sg z) i:Nat)))) u7' u8'∧acc'.length≤120∧M5=M4) (fun N1 hN1=> ?_) ?_
  ·refine dN (bU (aO (bQ (aJ (aG rfl (aV (eV hM4 (aN (Mi ?_)))))))))
   rw [List.length_map,List.length_map]
   refine gq (fun hc=> ?_) (fun hc=>hN1 _ _ ⟨rfl,by omega,rfl⟩)
   exact Wn hM4 (hX _ _ _ (g1 (by omega)) (dl k4))
  rintro sl M5 ⟨rfl,Ai,rfl⟩
  refine bL (aG rfl ?_)
  exact⟨(sg z).length-g_ (sg z) i,by omega,g_ (sg z) i,n,acc',_,_,_,rfl,l2,hM4,Ai,g2' Ai,k4,rfl⟩
 rintro sl M2 ⟨acc,jN,lB,ZC,ZD,Dy,Dz,eZ,rfl,hM2,hacc,hr2,k2⟩
 refine eV hM2 (bB (Uu acc) ?_)
 refine cJ (aJ (aO (aG rfl ?_)))
 refine aJ (aJ (aN (aJ (aN (aJ (aO ?_))))))
 refine bQ (aJ (aG rfl (aV ⟨small (by omega),aN (jE (aV ?_))⟩)))
 refine dR (ds:= [.str "end",.str "",.int (((z.length:Nat):Int)+1)]) ?_
 refine aV (dR (ds:= [.tuple [.str "end",.str "",.int (((z.length:Nat):Int)+1)]]) ?_)
 refine⟨by rw [List.length_map,sizeLine_eq];show acc.length+1≤_;omega,?_⟩
 refine aJ (aN (aV ?_))
 refine dR (ds:= [_,.none]) ?_
 have:=hR _ (cZ M2 q) hr2 (fun b o e _=> ?_)
 ·rw [List.map_append]at this
  have e2:((sg z).length:Int)+1=((z.length:Nat):Int)+1:=by rw [zl]
  rw [e2]at this
  exact this
 ·have hb:b≠q:=fun h=>by rw [h,nq]at e;cases e
  rw [m9 hb]
  exact k2 b o e (by simpa using hb)
theorem acj {P:Program} {w:World} {K:PySem.W.Frag} {mg:Str→Option Value} {base:Heap} {dV:Value} {f:Addr} {fd:FuncData} (F:dw K "_law_lexed" "_law_lexed" yh dV f fd) (fJ:mg "len" =none):bM P w K mg base CX0 1 f fd ["line"] (dO K zG):=
 F.data oJ afA Y4 (fun cdv A outer s H E hg hr=>
  (aR (bx (i:=1) oJ.nd rfl (by first|exact Or.inl rfl|exact Or.inr rfl) (dZ (aq aK (aq aK (aq aK (aq aK (aq aK (aq aK (aq aK (aq aK (aq aK (aq aK (aq aK (aq aK (aq aK (aq aK aM))))))))))))))))
   (aR (bx (i:=1) oJ.nd rfl (by first|exact Or.inl rfl|exact Or.inr rfl) (aU bH (au 1) (dZ (aq aK (aq aK aM)))))
   (aR (bx (i:=2) oJ.nd rfl (by first|exact Or.inl rfl|exact Or.inr rfl) aK)
   (aR (bx (i:=3) oJ.nd rfl (by first|exact Or.inl rfl|exact Or.inr rfl) aK)
   (aR (bx (i:=4) oJ.nd rfl (by first|exact Or.inl rfl|exact Or.inr rfl) (wj aM))
   (aR (bx (i:=5) oJ.nd rfl (by first|exact Or.inl rfl|exact Or.inr rfl) aP)
   (aR (sW PassesOwn.never (bJ (qZ hr) (au 5) (gU jJ (by rfl) fJ (by decide+kernel) (aq (au 0) aM)) (nomark _)) (aR (bx (i:=6) oJ.nd rfl (by first|exact Or.inl rfl|exact Or.inr rfl) (aU bH (au 5) aP))
   (aR (cP (jU (qT (bJ (jP hr) (cH (au 0) (au 5)) (au 2) rfl) (tD (bJ (jP hr) (cH (au 0) (au 5)) (au 3) rfl)))) (aR (bx (i:=7) oJ.nd rfl (by first|exact Or.inl rfl|exact Or.inr rfl) (n_ (bJ (jP hr) (cH (au 0) (au 5)) (au 2) rfl) (aU bH (au 2) (au 3)) (au 3)))
   (aW (sW PassesOwn.never (jU (oX (bJ (qZ hr) (au 6) (gU jJ (by rfl) fJ (by decide+kernel) (aq (au 0) aM)) (nomark _)) (qu (bJ (jP hr) (cH (au 0) (au 6)) (au 7) rfl)))) (aW (bx (i:=6) oJ.nd rfl (by first|exact Or.inl rfl|exact Or.inr rfl) (aU bH (au 6) aP)))))) (aW (cP (bJ (jP hr) (jo (au 0) (gY (au 5)) (gY (aU bH (au 5) aP))) (dZ (aq aK (aq aK (aq aK (aq aK (aq aK aM)))))) rfl) (aW (bx (i:=6) oJ.nd rfl (by first|exact Or.inl rfl|exact Or.inr rfl) (aU bH (au 5) aP))) cW)))
   (aR (bx (i:=8) oJ.nd rfl (by first|exact Or.inl rfl|exact Or.inr rfl) (jo (au 0) (gY (au 5)) (gY (au 6))))
   (aR (cP (bJ (jP hr) (au 8) (au 1) rfl) (aW (xX (au 4) (dG (aq aK (aq (au 8) (aq (aU bH (au 5) aP) aM)))))) (aW (cP (jU (oX (bJ (jP hr) (cH (au 8) aP) (au 2) rfl) (qu (bJ (qZ hr) (gU jJ (by rfl) fJ (by decide+kernel) (aq (au 8) aM)) aP (nomark _))))) (aW (xX (au 4) (dG (aq aK (aq (au 8) (aq (aU bH (au 5) aP) aM)))))) (aW (cP (jU (oX (bJ (jP hr) (cH (au 8) aP) (au 3) rfl) (oX (bJ (qZ hr) (gU jJ (by rfl) fJ (by decide+kernel) (aq (au 8) aM)) aP (nomark _)) (qu (jU (qT (bJ (gj hr) (au 8) aK (nomark _)) (tD (bJ (mO hr) (cH (au 8) aP) aK (nomark _))))))))) (aW (xX (au 4) (dG (aq aK (aq (au 8) (aq (aU bH (au 5) aP) aM)))))) (aW (cP (bJ (jP hr) (au 8) (dZ (aq aK (aq aK (aq aK (aq aK (aq aK (aq aK (aq aK (aq aK (aq aK (aq aK (aq aK (aq aK (aq aK (aq aK aM))))))))))))))) rfl) (aW (xX (au 4) (dG (aq aK (aq (au 8) (aq (aU bH (au 5) aP) aM)))))) (aW (cP (bJ (mO hr) (au 8) aK (nomark _)) (BX 4 (aW (b_ (dG (aq (au 4) (aq (aU bH (au 5) aP) aM)))))) cW)))))))))
   (aR (cP (bJ rM (gU jJ (by rfl) fJ (by decide+kernel) (aq (au 4) aM)) aP (nomark _)) (BX 4 (aW (b_ (dG (aq (au 4) (aq (aU bH (au 5) aP) aM)))))) cW)
   (aW (bx (i:=5) oJ.nd rfl (by first|exact Or.inl rfl|exact Or.inr rfl) (au 6)))))))))
   (BX 4 (aW (b_ (dG (aq (aU bH (au 4) (dZ (aq (dG (aq aK (aq aK (aq (aU bH (gU jJ (by rfl) fJ (by decide+kernel) (aq (au 0) aM)) aP) aM)))) aM))) (aq fY aM)))))))))))))) ahA
abbrev yR:Stmt:=topS 46
abbrev W3:List Str:= ["parser"]
theorem agd:FnScope W3 ["parser"] (defScope yR):=⟨rfl,rfl,rfl,by decide+kernel,rfl,by decide+kernel,by decide+kernel⟩
def nM:dM:=fun xs M R=> ∃(p:Addr) (ts:List Tk) (nm:List Str) (d:Int) (o:Except Int Nat),xs= [.raw (.ref p)]∧d9 M p ts nm d o∧ ∀M',d9 M' p ts nm d (JF ts o)→MK [p] M M'→R (.d (.tuple [.str "int",.int 0])) M'
theorem Gq {sl:Slots} {M:Mem} {R:KD} (k:R (.d (.tuple [.str "int",.int 0])) M):dTup (aj (dC (.d (.str "int"))) (aj (dC (.d (.int 0))) aH)) sl M R:=bB rfl ⟨Nat.le_of_ble_eq_true rfl,k⟩
def Xy:bK:=(aQ (bZ (dB (aA mQ (aA bf (ao 0) (dC (.d (.int 3)))) (dC (.d .none)))) (jt (aA bf (aA bf (aA bf (ao 0) (dC (.d (.int 0)))) (aA bf (ao 0) (dC (.d (.int 1))))) (dC (.d (.int 2)))) (ao 0) (dC (.d (.int 3)))) cV)
 (bO (dTup (aj (dC (.d (.str "int"))) (aj (dC (.d (.int 0))) aH)))))
theorem ag3: ∀xs M R,nM xs M R→xs.length=1:=by
 rintro xs M R ⟨p,ts,nm,d,o,rfl,_⟩
 rfl
theorem ah3: ∀xs M R,nM xs M R→Xy {nx:=fun _ M'=>R (.d .none) M',rt:=R} (dD W3 xs) M:=by
 rintro xs M R ⟨p,ts,nm,d,o,rfl,⟨i,d',pr,hA,hi,hc⟩,h⟩
 refine aY (fun sl M1=>d9 M1 p ts nm d (JF ts o)∧MK [p] M M1) (fun N hN=> ?_) ?_
 ·refine dN (adI (p:=p) rfl hA ?_)
  rcases hc with⟨rfl,rfl,rfl⟩|⟨c,rfl,rfl⟩
  ·refine cG rfl ?_
   exact aev (p:=p) rfl hA hi fun M' h' k=>hN _ _ ⟨⟨i,d',_,h',hi,.inr ⟨_,rfl,rfl⟩⟩,k⟩
  ·refine bW rfl ?_
   exact hN _ _ ⟨⟨i,d',_,hA,hi,.inr ⟨_,rfl,rfl⟩⟩,MK.refl _ _⟩
 ·rintro sl M1 ⟨hS,k⟩
  exact cJ (Gq (h M1 hS k))
theorem agw {P:Program} {w:World} {K:PySem.W.Frag} {mg:Str→Option Value} {base:Heap} {dV:Value} {f:Addr} {fd:FuncData} (F:dw K "_law_stop" "_law_stop" yR dV f fd):bM P w K mg base CX0 1 f fd ["parser"] (dO K nM):=
 F.data agd ag3 Xy (fun cdv A outer s H E hg hr=>
  (aR (cP (bJ tM (cH (au 0) aP) fY (nomark _)) (aW (pD (cH (cH (cH (au 0) aP) (cH (au 0) aP)) aP) (au 0) aP)) cW)
   (aW (b_ (dG (aq aK (aq aP aM))))))) ah3
abbrev yK:Stmt:=topS 47
abbrev Zh:List Str:= ["parser","texts","kind","text","column"]
theorem G6:FnScope Zh ["parser","texts"] (defScope yK):=⟨rfl,rfl,rfl,by decide+kernel,rfl,by decide+kernel,by decide+kernel⟩
def lK:dM:=fun xs M R=> ∃(p:Addr) (ts:List Tk) (nm texts:List Str) (d:Int) (o:Except Int Nat),xs= [.raw (.ref p),.d (.list (texts.map PyData.str))]∧lM ts∧d9 M p ts nm d o∧ ∀t o' M',Dm ts texts o t o'→d9 M' p ts nm d o'→MK [p] M M'→R (.d (.str t)) M'
theorem acu {x:Str} {l:List Str} {M:Mem} {R:KD} (k:R (.d (.bool (!decide (x∈l)))) M):g2 (inD true) (.d (.str x)) (.d (.list (l.map PyData.str))) M R:=⟨Fe _ _,by
 show R (.d (.bool (!((l.map PyData.str).any fun y=>PyData.eqv y (.str x))))) M
 rw [Gk]
 exact k⟩
theorem JV {sl:Slots} {M:Mem} {R:KD} {p:Addr} {ts:List Tk} {nm:List Str} {d:Int} {o:Except Int Nat} (x:Str) (e:sl[0]? =some (some (.raw (.ref p)))) (w:lM ts) (h:d9 M p ts nm d o) (k: ∀t o' M',Dm ts [x] o t o'→d9 M' p ts nm d o'→MK [p] M M'→R (.d (.str t)) M'):dCall lK (aj (ao 0) (aj (cU (aj (dC (.d (.str x))) aH)) aH)) sl M R:=by
 refine bQ (aJ (aG e (aJ ?_)))
 refine bB rfl ⟨Nat.le_of_ble_eq_true rfl,aV ?_⟩
 exact⟨p,ts,nm,[x],d,o,rfl,w,h,k⟩
def X4:bK:=(aQ (zU (aA bf (aA bf (ao 0) (dC (.d (.int 0)))) (aA bf (ao 0) (dC (.d (.int 1))))) (w6 3 (nA (iT 2) (nA (iT 3) (nA (iT 4) wH)))))
 (aQ (bZ (mD (dB (aA kZ (aA bf (ao 0) (dC (.d (.int 3)))) (dC (.d .none)))) (mD (dB (aA (g2 (inD true)) (ao 2) (dTup (aj (dC (.d (.str "word"))) (aj (dC (.d (.str "symbol"))) aH))))) (dB (aA (g2 (inD true)) (ao 3) (ao 1))))) (bO (dC (.d (.str "")))) cV)
 (aQ (jt (aA (g2 aX) (aA bf (ao 0) (dC (.d (.int 1)))) (dC (.d (.int 1)))) (ao 0) (dC (.d (.int 1))))
 (bO (ao 3)))))
theorem adP: ∀xs M R,lK xs M R→xs.length=2:=by
 rintro xs M R ⟨p,ts,nm,texts,d,o,rfl,_⟩
 rfl
theorem ahu: ∀xs M R,lK xs M R→X4 {nx:=fun _ M'=>R (.d .none) M',rt:=R} (dD Zh xs) M:=by
 rintro xs M R ⟨p,ts,nm,texts,d,o,rfl,w,⟨i,d',pr,hA,hi,hc⟩,h⟩
 refine aY (fun sl M1=>sl= [some (.raw (.ref p)),some (.d (.list (texts.map PyData.str))),some (.d (.str (tk ts i).kind)),some (.d (.str (tk ts i).text)),some (.d (.int (tk ts i).col))]∧M1=M) (fun N hN=> ?_) ?_
 ·refine Hf (JL (p:=p) rfl hA hi ?_)
  exact⟨rfl,nQ (jL (nQ (jL (nQ (jL (zJ (hN _ _ ⟨rfl,rfl⟩)))))))⟩
 rintro sl M1 ⟨rfl,rfl⟩
 have hS: ∀o',(pr=none∧o= .ok i→o'= .ok i)→ ∀M',jH M' p ts nm i d' pr→(o'=o)→d9 M' p ts nm d o':=fun o' _ M' hA' e=>⟨i,d',pr,hA',hi,by rw [e];exact hc⟩
 have no:(∀j,o= .ok j→ ¬rR ts texts j)→R (.d (.str "")) M1:=fun hno=>by
  rcases hc with⟨rfl,rfl,rfl⟩|⟨c,rfl,rfl⟩
  ·exact h _ _ M1 (.no (hno i rfl)) ⟨i,d',_,hA,hi,.inl ⟨rfl,rfl,rfl⟩⟩ (MK.refl _ _)
  ·exact h _ _ M1 .err ⟨i,d',_,hA,hi,.inr ⟨_,rfl,rfl⟩⟩ (MK.refl _ _)
 refine aY (fun sl M2=>sl= [some (.raw (.ref p)),some (.d (.list (texts.map PyData.str))),some (.d (.str (tk ts i).kind)),some (.d (.str (tk ts i).text)),some (.d (.int (tk ts i).col))]∧M2=M1∧rR ts texts i∧pr=none) (fun N hN=> ?_) ?_
 ·refine dN (tV (Vn (p:=p) rfl hA ?_))
  cases hpr:pr with
  |some c=>
   refine cG rfl (cG rfl (cJ (aN (no fun j hj=> ?_))))
   rcases hc with⟨h1,_,_⟩|⟨c,_,h2⟩
   ·rw [h1]at hpr
    cases hpr
   ·rw [h2]at hj
    cases hj
  |none=>
   refine bW rfl (tV (bU (aO (aG rfl (Es (Lj (l:= ["word","symbol"]) ?_))))))
   have oi:o= .ok i:=by
    rcases hc with⟨_,h2,_⟩|⟨c,h1,_⟩
    ·exact h2
    ·rw [hpr]at h1
     cases h1
   by_cases hk:(tk ts i).kind∈(["word","symbol"]:List Str)
   ·rw [decide_eq_true hk]
    refine bW rfl (bU (aO (aG rfl (aG rfl (acu ?_)))))
    by_cases ht:(tk ts i).text∈texts
    ·rw [decide_eq_true ht]
     exact bW rfl (hN _ _ ⟨rfl,rfl,⟨hk,ht⟩,hpr⟩)
    ·rw [decide_eq_false ht]
     refine cG rfl (cJ (aN (no fun j hj z=> ?_)))
     rw [oi]at hj
     cases hj
     exact ht z.2
   ·rw [decide_eq_false hk]
    refine cG rfl (cG rfl (cJ (aN (no fun j hj z=> ?_))))
    rw [oi]at hj
    cases hj
    exact hk z.1
 rintro sl M2 ⟨rfl,rfl,hh,hpr⟩
 have oi:o= .ok i∧d'=d:=by
  rcases hc with⟨_,h2,h3⟩|⟨c,h1,_⟩
  ·exact⟨h2,h3⟩
  ·rw [hpr]at h1
   cases h1
 obtain⟨rfl,rfl⟩:=oi
 have hl:=rF w.ok (i:=i) (fun z=>by
  have:=hh.1
  rw [z]at this
  exact absurd this (by decide+kernel))
 refine sq (Jc (p:=p) rfl hA fun M' hA' k=> ?_)
 dsimp only
 refine cJ (aG rfl ?_)
 exact h _ _ M' (.yes hh) ⟨i+1,d',pr,hA',hl,.inl ⟨hpr,rfl,rfl⟩⟩ k
theorem ahX {P:Program} {w:World} {K:PySem.W.Frag} {mg:Str→Option Value} {base:Heap} {dV:Value} {f:Addr} {fd:FuncData} (F:dw K "_law_accept" "_law_accept" yK dV f fd):bM P w K mg base CX0 1 f fd ["parser","texts"] (dO K lK):=
 F.data G6 adP X4 (fun cdv A outer s H E hg hr=>
  (aR (Fv (cH (cH (au 0) aP) (cH (au 0) aP)) (Ds rfl (pK (jf (i:=2) G6.nd rfl (by first|exact Or.inl rfl|exact Or.inr rfl)) (pK (jf (i:=3) G6.nd rfl (by first|exact Or.inl rfl|exact Or.inr rfl)) (pK (jf (i:=4) G6.nd rfl (by first|exact Or.inl rfl|exact Or.inr rfl)) Bl)))))
   (aR (cP (jU (qT (bJ oY (cH (au 0) aP) fY (nomark _)) (qT (bJ (Br hr) (au 2) (dG (aq aK (aq aK aM))) rfl) (tD (bJ (Br hr) (au 3) (au 1) rfl))))) (aW (b_ aK)) cW)
   (aR (pD (aU bH (cH (au 0) aP) aP) (au 0) aP)
   (aW (b_ (au 3))))))) ahu
abbrev yH:Stmt:=topS 48
abbrev YM:List Str:= ["parser","text"]
theorem afr:FnScope YM ["parser","text"] (defScope yH):=⟨rfl,rfl,rfl,by decide+kernel,rfl,by decide+kernel,by decide+kernel⟩
def pN:dM:=fun xs M R=> ∃(p:Addr) (ts:List Tk) (nm:List Str) (x kind:Str) (d:Int) (o:Except Int Nat),xs= [.raw (.ref p),.d (.str x)]∧lM ts∧kind∈(["word","symbol"]:List Str)∧kOf x=kind∧x≠ "" ∧d9 M p ts nm d o∧ ∀M',d9 M' p ts nm d (zA ts kind x o)→MK [p] M M'→R (.d .none) M'
theorem Ce {D:fD} {sl:Slots} {M:Mem} {p:Addr} {ts:List Tk} {nm:List Str} {d:Int} {o:Except Int Nat} (kind x:Str) (e:sl[0]? =some (some (.raw (.ref p)))) (w:lM ts) (h:d9 M p ts nm d o) (hk:kind∈(["word","symbol"]:List Str)) (hx:kOf x=kind) (h0:x≠ "") (k: ∀M',d9 M' p ts nm d (zA ts kind x o)→MK [p] M M'→D.nx sl M'):gW (dCall pN (aj (ao 0) (aj (dC (.d (.str x))) aH))) D sl M:=
 BK (bQ (aJ (aG e (aJ (aN (aV ⟨p,ts,nm,x,kind,d,o,rfl,w,hk,hx,h0,h,k⟩))))))
def Xl:bK:=(bZ (dB (aA (g2 eU) (dCall lK (aj (ao 0) (aj (cU (aj (ao 1) aH)) aH))) (dC (.d (.str ""))))) (gW (dCall nM (aj (ao 0) aH))) cV)
theorem aeW: ∀xs M R,pN xs M R→xs.length=2:=by
 rintro xs M R ⟨p,ts,nm,x,kind,d,o,rfl,_⟩
 rfl
theorem aga: ∀xs M R,pN xs M R→Xl {nx:=fun _ M'=>R (.d .none) M',rt:=R} (dD YM xs) M:=by
 rintro xs M R ⟨p,ts,nm,x,kind,d,o,rfl,w,hk,hx,h0,hS,h⟩
 refine dN (bU (aO ?_))
 refine bQ (aJ (aG (x:= .raw (.ref p)) rfl (aJ ?_)))
 refine aJ (aG rfl (aV ?_))
 refine dR (ds:= [.str x]) (aV ?_)
 refine⟨p,ts,nm,[x],d,o,rfl,w,hS,fun t o' M1 ha h1 k1=> ?_⟩
 refine aN (eq_str ?_)
 have stop:t= "" →o'=o→JF ts o=zA ts kind x o→if decide (t= "")=true then gW (dCall nM (aj (ao 0) aH)) {nx:=fun _ M'=>R (.d .none) M',rt:=R} [some (.raw (.ref p)),some (.d (.str x))] M1 else R (.d .none) M1:=fun e1 e2 e3=>by
  rw [e1]
  refine cG (decide_eq_true rfl) (BK (bQ (aJ (aG rfl (aV ?_)))))
  refine⟨p,ts,nm,d,o,rfl,by rw [←e2];exact h1,fun M2 h2 k2=> ?_⟩
  rw [e3]at h2
  exact h M2 h2 (k1.trans k2)
 cases ha with
 |err=>exact stop rfl rfl rfl
 |no hn=>
  rename_i i
  refine stop rfl rfl ?_
  show Except.error _=if dU ts kind x i then _ else _
  rw [if_neg fun z=>hn ((uX w hk hx).mpr z)]
 |yes hy=>
  rename_i i
  have e:(tk ts i).text=x:=List.mem_singleton.mp hy.2
  rw [e,decide_eq_false h0]
  refine bW rfl ?_
  refine h M1 ?_ k1
  have:zA ts kind x (.ok i)= .ok (i+1):=by
   show(if dU ts kind x i then _ else _)=_
   rw [if_pos ((uX w hk hx).mp hy)]
  rw [this]
  exact h1
theorem afz {P:Program} {w:World} {K:PySem.W.Frag} {mg:Str→Option Value} {base:Heap} {dV:Value} {f:Addr} {fd:FuncData} (F:dw K "_law_demand" "_law_demand" yH dV f fd) (mW:Def P w K mg base "_law_accept" 1 lK) (pW:Def P w K mg base "_law_stop" 1 nM):bM P w K mg base CX0 2 f fd ["parser","text"] (dO K pN):=
 F.data afr aeW Xl (fun cdv A outer s H E hg hr=>
  (aW (cP (bJ (gj hr) (mW.de hg (hr.mono (by decide)) (by rfl) (aq (au 0) (aq (dZ (aq (au 1) aM)) aM))) aK (nomark _)) (aW (ju (pW.de hg (hr.mono (by decide)) (by rfl) (aq (au 0) aM)))) cW))) aga
def jg (c:Nat) (d:Int):Nat:=9*(30-d).toNat+c
def lJ (n:Nat):dM:=fun xs M R=> ∃(p:Addr) (ts:List Tk) (nm:List Str) (d:Int) (o:Except Int Nat) (m:Nat) (r:Except Int (Ex×Nat)),xs= [.raw (.ref p)]∧lM ts∧d9 M p ts nm d o∧0≤d∧d≤30∧jg 1 d≤n∧nxt o (pP nm ts m .expr d)=some r∧yj nm ts p M d r R
def nu (n:Nat):dM:=fun xs M R=> ∃(p:Addr) (ts:List Tk) (nm:List Str) (d:Int) (o:Except Int Nat) (m k:Nat) (r:Except Int (Ex×Nat)),xs= [.raw (.ref p),.d (.int (k:Nat))]∧1≤k∧k≤7∧lM ts∧d9 M p ts nm d o∧0≤d∧d≤30∧jg (10-k) d≤n∧nxt o (pP nm ts m (lvl k) d)=some r∧yj nm ts p M d r R
def qm (n:Nat):dM:=fun xs M R=> ∃(p:Addr) (ts:List Tk) (nm:List Str) (d:Int) (o:Except Int Nat) (m k:Nat) (u:Un) (r:Except Int (Ex×Nat)),xs= [.raw (.ref p),.d (.str u.s),.d (.int (k:Nat))]∧(k=3∨k=7)∧lM ts∧d9 M p ts nm d o∧0≤d∧d≤30∧jg 1 d≤n∧nxt o (fun i=>jc ts d i ((pP nm ts m (lvl k) (d+1) i).then fun a j=>dh (.un u a) j))=some r∧yj nm ts p M d r R
def sV (n:Nat):dM:=fun xs M R=> ∃(p:Addr) (ts:List Tk) (nm:List Str) (d:Int) (o:Except Int Nat) (m:Nat) (r:Except Int (Ex×Nat)),xs= [.raw (.ref p)]∧lM ts∧d9 M p ts nm d o∧0≤d∧d≤30∧jg 2 d≤n∧nxt o (pP nm ts m .fac d)=some r∧yj nm ts p M d r R
theorem W8 {nm:List Str} {ts:List Tk} {p:Addr} {M:Mem} {d d':Int} {c:Int} {r:Except Int (Ex×Nat)} {R:KD} (h:yj nm ts p M d r R) (hr:r= .error c) {M':Mem} (hS:d9 M' p ts nm d' (.error c)) (k:MK [p] M M') (x:PyData):R (.d x) M':=by
 subst hr
 exact h x M' (fun e j z=>(by cases z)) (af0 hS) k
theorem Vu {sl:Slots} {M:Mem} {p:Addr} {ts:List Tk} {nm:List Str} {d:Int} {o:Except Int Nat} {D:fD} (e:sl[0]? =some (some (.raw (.ref p)))) (h:d9 M p ts nm (d+1) o) (q: ∀M',d9 M' p ts nm (d+1) (xR ts d o)→MK [p] M M'→D.nx sl M'):bZ (dB (aA (g2 (jX fun i j=>decide (j<i))) (aA bf (ao 0) (dC (.d (.int 2)))) (dC (.d (.int 30))))) (gW (dCall nM (aj (ao 0) aH))) cV D sl M:=by
 refine dN (adJ (p:=p) e h fun k hk=> ?_)
 cases o with
 |error c=>
  refine afT (fun _=> ?_) (fun _=>q M h (MK.refl _ _))
  refine BK (bQ (aJ (aG e (aV ⟨p,ts,nm,d+1,.error c,rfl,h,fun M' h' k'=>q M' h' k'⟩))))
 |ok i=>
  rw [hk i rfl]
  have ee:xR ts d (.ok i)=if 30<d+1 then .error (tk ts i).col else .ok i:=rfl
  rw [ee]at q
  refine gq (fun c=> ?_) (fun c=> ?_)
  ·rw [if_pos c]at q
   exact BK (bQ (aJ (aG e (aV ⟨p,ts,nm,d+1,.ok i,rfl,h,fun M' h' k'=>q M' h' k'⟩))))
  ·rw [if_neg c]at q
   exact q M h (MK.refl _ _)
theorem Df {n:Nat} {sl:Slots} {M:Mem} {R:KD} {p:Addr} {ts:List Tk} {nm:List Str} {d:Int} {o:Except Int Nat} {m:Nat} {r:Except Int (Ex×Nat)} (e:sl[0]? =some (some (.raw (.ref p)))) (w:lM ts) (h:d9 M p ts nm d o) (h0:0≤d) (h1:d≤30) (hn:jg 1 d≤n) (hp:nxt o (pP nm ts m .expr d)=some r) (k:yj nm ts p M d r R):dCall (lJ n) (aj (ao 0) aH) sl M R:=bQ (aJ (aG e (aV ⟨p,ts,nm,d,o,m,r,rfl,w,h,h0,h1,hn,hp,k⟩)))
abbrev tR:Stmt:=topS 49
abbrev Y0:List Str:= ["parser","condition","first","found"]
theorem BZ:FnScope Y0 ["parser"] (defScope tR):=⟨rfl,rfl,rfl,by decide+kernel,rfl,by decide+kernel,by decide+kernel⟩
def Xp (n:Nat):bK:=(aQ (jt (aA (g2 aX) (aA bf (ao 0) (dC (.d (.int 2)))) (dC (.d (.int 1)))) (ao 0) (dC (.d (.int 2))))
 (aQ (bZ (dB (aA (g2 (jX fun i j=>decide (j<i))) (aA bf (ao 0) (dC (.d (.int 2)))) (dC (.d (.int 30))))) (gW (dCall nM (aj (ao 0) aH))) cV)
 (aQ (bZ (dB (aA kZ (aA bf (ao 0) (dC (.d (.int 3)))) (dC (.d .none)))) (bO (dTup (aj (dC (.d (.str "int"))) (aj (dC (.d (.int 0))) aH)))) cV)
 (aQ (bZ (dB (aA (g2 jC) (dCall lK (aj (ao 0) (aj (cU (aj (dC (.d (.str "if"))) aH)) aH))) (dC (.d (.str ""))))) (aQ (aZ 1 (dCall (lJ n) (aj (ao 0) aH)))
 (aQ (gW (dCall pN (aj (ao 0) (aj (dC (.d (.str "then"))) aH))))
 (aQ (aZ 2 (dCall (lJ n) (aj (ao 0) aH)))
 (aQ (gW (dCall pN (aj (ao 0) (aj (dC (.d (.str "else"))) aH))))
 (aZ 3 (dTup (aj (dC (.d (.str "if"))) (aj (ao 1) (aj (ao 2) (aj (dCall (lJ n) (aj (ao 0) aH)) aH)))))))))) (aZ 3 (dCall (nu n) (aj (ao 0) (aj (dC (.d (.int 1))) aH)))))
 (aQ (jt (aA (g2 (intOp (· - ·))) (aA bf (ao 0) (dC (.d (.int 2)))) (dC (.d (.int 1)))) (ao 0) (dC (.d (.int 2))))
 (bO (ao 3)))))))
theorem aer: ∀xs M R,¬lJ 0 xs M R:=by
 rintro xs M R ⟨p,ts,nm,d,o,m,r,rfl,_,_,_,_,h,_⟩
 unfold jg at h
 omega
theorem aeT (n:Nat): ∀xs M R,lJ n xs M R→xs.length=1:=by
 rintro xs M R ⟨p,ts,nm,d,o,m,r,rfl,_⟩
 rfl
theorem ab3: ∀n xs M R,lJ (n+1) xs M R→Xp n {nx:=fun _ M'=>R (.d .none) M',rt:=R} (dD Y0 xs) M:=by
 rintro n xs M R ⟨p,ts,nm,d,o,m0,r,rfl,w,hS,h0,h1,hn,hp,hK⟩
 unfold jg at hn
 obtain⟨m,hp⟩: ∃m,nxt o (fun i=>jc ts d i (if dU ts "word" "if" i then
   (pP nm ts m .expr (d+1) (i+1)).then fun c i=>cX ts "word" "then" i fun i=>(pP nm ts m .expr (d+1) i).then fun a i=>cX ts "word" "else" i fun i=>(pP nm ts m .expr (d+1) i).then fun b i=>dh (.ite c a b) i
   else pP nm ts m .disj (d+1) i))=some r:=by
  cases o with
  |error c=>exact⟨0,hp⟩
  |ok i=>cases m0 with
   |zero=>cases hp
   |succ m=>exact⟨m,hp⟩
 refine sq (V1 (p:=p) rfl hS fun M1 hS1 k1=> ?_)
 refine sq (Vu (p:=p) rfl hS1 fun M2 hS2 k2=> ?_)
 have hp2:=T6 hp
 have k12:=k1.trans k2
 cases ho:xR ts d o with
 |error c=>
  rw [ho]at hp2 hS2
  refine sq (dN (Dh (p:=p) rfl hS2 (cG rfl (cJ (Gq ?_)))))
  exact W8 hK (Option.some.inj hp2).symm hS2 k12 _
 |ok i=>
  have hd:=(Ub ho).2
  rw [ho]at hp2 hS2
  have hp2:(if dU ts "word" "if" i then
   (pP nm ts m .expr (d+1) (i+1)).then fun c i=>cX ts "word" "then" i fun i=>(pP nm ts m .expr (d+1) i).then fun a i=>cX ts "word" "else" i fun i=>(pP nm ts m .expr (d+1) i).then fun b i=>dh (.ite c a b) i
   else pP nm ts m .disj (d+1) i)=some r:=hp2
  refine sq (dN (Dh (p:=p) rfl hS2 (bW rfl ?_)))
  refine aY (fun sl M3=> ∃(x:PyData) (DK ou:Option DV),sl= [some (.raw (.ref p)),DK,ou,some (.d x)]∧(∀e j,r= .ok (e,j)→x=e.d)∧d9 M3 p ts nm (d+1) (jr r)∧MK [p] M M3) (fun N hN=> ?_) ?_
  ·refine dN (bU (aO (JV (p:=p) "if" rfl w hS2 fun t o' M3 ha hS3 k3=>aN (ne_str ?_))))
   have k3:=k12.trans k3
   cases ha with
   |no hno=>
    rw [if_neg fun z=>hno ((uX w (by decide+kernel) (by decide+kernel)).mpr z)]at hp2
    refine bW rfl ?_
    refine bL (bQ (aJ (aG rfl (aJ (aN (aV ?_))))))
    refine⟨p,ts,nm,d+1,.ok i,m,1,r,rfl,by decide,by decide,w,hS3,by omega,hd,?_,hp2,fun x M4 hx hS4 k4=> ?_⟩
    ·unfold jg
     omega
    exact hN _ _ ⟨x,_,_,rfl,hx,hS4,k3.trans k4⟩
   |yes hy=>
    have hy:=(uX w (kind:= "word") (by decide+kernel) (by decide+kernel)).mp hy
    rw [if_pos hy]at hp2
    rw [hy.2]
    refine cG rfl ?_
    have hp3:nxt (.ok (i+1)) (fun i=>(pP nm ts m .expr (d+1) i).then fun c i=>cX ts "word" "then" i fun i=>(pP nm ts m .expr (d+1) i).then fun a i=>cX ts "word" "else" i fun i=>(pP nm ts m .expr (d+1) i).then fun b i=>dh (.ite c a b) i)=some r:=hp2
    obtain⟨r1,c,q1,q2,q3⟩:=uO hp3
    have nd:jg 1 (d+1)≤n:=by
     unfold jg
     omega
    refine aY (fun sl M4=> ∃(x1:PyData) (ou lN:Option DV),sl= [some (.raw (.ref p)),some (.d x1),ou,lN]∧(∀e j,r1= .ok (e,j)→x1=e.d)∧d9 M4 p ts nm (d+1) (jr r1)∧MK [p] M M4) (fun N1 hN1=> ?_) ?_
    ·exact bL (Df (p:=p) rfl w hS3 (by omega) hd nd q1 fun x M4 hx hS4 k4=>hN1 _ _ ⟨x,_,_,rfl,hx,hS4,k3.trans k4⟩)
    rintro sl M4 ⟨x1,ou,lN,rfl,hx1,hS4,k4⟩
    refine sq (Ce (p:=p) "word" "then" rfl w hS4 (by decide+kernel) (by decide+kernel) (by decide+kernel) fun M5 hS5 k5=> ?_)
    dsimp only
    have k5:=k4.trans k5
    obtain⟨r2,a,u1,u2,u3⟩:=uO (Ck q3)
    refine aY (fun sl M6=> ∃(x2:PyData) (lN:Option DV),sl= [some (.raw (.ref p)),some (.d x1),some (.d x2),lN]∧(∀e j,r2= .ok (e,j)→x2=e.d)∧d9 M6 p ts nm (d+1) (jr r2)∧MK [p] M M6) (fun N1 hN1=> ?_) ?_
    ·exact bL (Df (p:=p) rfl w hS5 (by omega) hd nd u1 fun x M6 hx hS6 k6=>hN1 _ _ ⟨x,_,rfl,hx,hS6,k5.trans k6⟩)
    rintro sl M6 ⟨x2,lN,rfl,hx2,hS6,k6⟩
    refine sq (Ce (p:=p) "word" "else" rfl w hS6 (by decide+kernel) (by decide+kernel) (by decide+kernel) fun M7 hS7 k7=> ?_)
    dsimp only
    have k7:=k6.trans k7
    obtain⟨r3,b,v1,v2,v3⟩:=uO (Ck u3)
    refine bL (aJ (aN (aJ (aG rfl (aJ (aG rfl (aJ ?_)))))))
    refine Df (p:=p) rfl w hS7 (by omega) hd nd v1 fun x3 M8 hx3 hS8 k8=> ?_
    refine aV ?_
    refine dR (ds:= [.str "if",x1,x2,x3]) ?_
    refine hN _ _ ⟨_,_,_,rfl,fun e j z=> ?_,?_,k7.trans k8⟩
    ·rw [z]at v3
     obtain⟨rfl,e3⟩:=Ku v3
     obtain⟨b',f3⟩:=vo e3
     obtain⟨g3,i3,e3⟩:=v2 b' j f3
     obtain⟨i2,e2⟩:=G8 e3
     obtain⟨a',f2⟩:=vo e2
     obtain⟨g2,i2',e2'⟩:=u2 a' i2 f2
     obtain⟨i1,e1⟩:=G8 e2'
     obtain⟨c',f1⟩:=vo e1
     obtain⟨g1,_⟩:=q2 c' i1 f1
     subst g1 g2 g3
     rw [hx1 _ _ f1,hx2 _ _ f2,hx3 _ _ f3]
     rfl
    ·rw [K7 v3]
     exact hS8
  rintro sl M3 ⟨x,DK,ou,rfl,hx,hS3,k3⟩
  refine sq (Vt (p:=p) rfl hS3 fun M4 hS4 k4=> ?_)
  dsimp only
  exact cJ (aG rfl (hK x M4 hx hS4 (k3.trans k4)))
theorem ah5 (n:Nat) {P:Program} {w:World} {K:PySem.W.Frag} {mg:Str→Option Value} {base:Heap} {dV:Value} {f:Addr} {fd:FuncData} (F:dw K "_law_whole" "_law_whole" tR dV f fd) (pW:Def P w K mg base "_law_stop" 1 nM) (mW:Def P w K mg base "_law_accept" 1 lK) (rP:Def P w K mg base "_law_whole" (3+n) (lJ n)) (uE:Def P w K mg base "_law_demand" 2 pN) (xg:Def P w K mg base "_law_chain" (3+n) (nu n)):bM P w K mg base CX0 (3+n+1) f fd ["parser"] (dO K (lJ (n+1))):=
 F.data BZ (aeT (n+1)) (Xp n) (fun cdv A outer s H E hg hr=>
  (aR (pD (aU bH (cH (au 0) aP) aP) (au 0) aP)
   (aR (cP (bJ rM (cH (au 0) aP) aP (nomark _)) (aW (ju (pW.de hg (hr.mono (by omega)) (by rfl) (aq (au 0) aM)))) cW)
   (aR (cP (bJ oY (cH (au 0) aP) fY (nomark _)) (aW (b_ (dG (aq aK (aq aP aM))))) cW)
   (aR (cP (bJ (mO hr) (mW.de hg (hr.mono (by omega)) (by rfl) (aq (au 0) (aq (dZ (aq aK aM)) aM))) aK (nomark _)) (aR (bx (i:=1) BZ.nd rfl (by first|exact Or.inl rfl|exact Or.inr rfl) (rP.de hg (hr.mono (Nat.le_refl _)) (by rfl) (aq (au 0) aM)))
   (aR (ju (uE.de hg (hr.mono (by omega)) (by rfl) (aq (au 0) (aq aK aM))))
   (aR (bx (i:=2) BZ.nd rfl (by first|exact Or.inl rfl|exact Or.inr rfl) (rP.de hg (hr.mono (Nat.le_refl _)) (by rfl) (aq (au 0) aM)))
   (aR (ju (uE.de hg (hr.mono (by omega)) (by rfl) (aq (au 0) (aq aK aM))))
   (aW (bx (i:=3) BZ.nd rfl (by first|exact Or.inl rfl|exact Or.inr rfl) (dG (aq aK (aq (au 1) (aq (au 2) (aq (rP.de hg (hr.mono (Nat.le_refl _)) (by rfl) (aq (au 0) aM)) aM))))))))))) (aW (bx (i:=3) BZ.nd rfl (by first|exact Or.inl rfl|exact Or.inr rfl) (xg.de hg (hr.mono (Nat.le_refl _)) (by rfl) (aq (au 0) (aq aP aM))))))
   (aR (pD (aU zj (cH (au 0) aP) aP) (au 0) aP)
   (aW (b_ (au 3))))))))) (ab3 n)
abbrev uD:Stmt:=topS 50
abbrev X3:List Str:= ["parser","rank","operators","found","operator"]
theorem yq:FnScope X3 ["parser","rank"] (defScope uD):=⟨rfl,rfl,rfl,by decide+kernel,rfl,by decide+kernel,by decide+kernel⟩
theorem aft {sl:Slots} {M:Mem} {R:KD} {k:Nat} (e:sl[1]? =some (some (.d (.int (k:Nat))))) (h1:1≤k) (h6:k≤6) (q:R (.d (.list ((fQ k).map fun o=>PyData.str o.s))) M):aA bf (cU (aj (cU aH) (aj (cU (aj (dC (.d (.str "or"))) aH)) (aj (cU (aj (dC (.d (.str "and"))) aH)) (aj (cU aH) (aj (cU (aj (dC (.d (.str "="))) (aj (dC (.d (.str "!="))) (aj (dC (.d (.str "<"))) (aj (dC (.d (.str "<="))) (aj (dC (.d (.str ">"))) (aj (dC (.d (.str ">="))) aH))))))) (aj (cU (aj (dC (.d (.str "+"))) (aj (dC (.d (.str "-"))) aH))) (aj (cU (aj (dC (.d (.str "*"))) (aj (dC (.d (.str "mod"))) aH))) aH)))))))) (ao 1) sl M R:=by
 refine aO ?_
 refine bB rfl ⟨Nat.le_of_ble_eq_true rfl,?_⟩
 refine bB rfl ⟨Nat.le_of_ble_eq_true rfl,?_⟩
 refine bB rfl ⟨Nat.le_of_ble_eq_true rfl,?_⟩
 refine bB rfl ⟨Nat.le_of_ble_eq_true rfl,?_⟩
 refine bB rfl ⟨Nat.le_of_ble_eq_true rfl,?_⟩
 refine bB rfl ⟨Nat.le_of_ble_eq_true rfl,?_⟩
 refine bB rfl ⟨Nat.le_of_ble_eq_true rfl,?_⟩
 refine bB rfl ⟨Nat.le_of_ble_eq_true rfl,?_⟩
 refine aG e ?_
 have hk:k=1∨k=2∨k=3∨k=4∨k=5∨k=6:=by omega
 rcases hk with rfl|rfl|rfl|rfl|rfl|rfl<;>exact bB rfl q
def Gx:Option Op→Str
 |none=> ""
 |some o=>o.s
theorem Vf: ∀o:Op,o.s≠ "" :=by
 intro o
 cases o<;>decide+kernel
theorem agj (k:Nat):((fQ k).map fun o=>PyData.str o.s)=((fQ k).map Op.s).map PyData.str:=by rw [List.map_map];rfl
inductive wY (op:Nat→Option Op) (one:Bool) (sub:Nat→PRs) (r:Except Int (Ex×Nat)):PyData→Except Int Nat→Str→Nat→Prop
 |bad {x:PyData} {c:Int}:r= .error c→wY op one sub r x (.error c) "" 0
 |end {e:Ex} {j:Nat}:r= .ok (e,j)→wY op one sub r e.d (.ok j) "" 0
 |more {e:Ex} {j W:Nat} {o:Op}:lZ one op sub (W+1) (some o) e j=some r→wY op one sub r e.d (.ok (j+1)) o.s (W+1)
def FW (f:Ex):Except Int (Ex×Nat)→Except Int (Ex×Nat)
 | .error c=> .error c
 | .ok (_,j)=> .ok (f,j)
theorem acL (f:Ex): ∀r,jr (FW f r)=jr r
 | .error _=>rfl
 | .ok (_,_)=>rfl
theorem ab7 {f e':Ex} {j':Nat}: ∀{r},FW f r= .ok (e',j')→e'=f∧ ∃e2,r= .ok (e2,j')
 | .error _,z=>by cases z
 | .ok (e2,_),z=>by cases z;exact⟨rfl,e2,rfl⟩
def Xe (n:Nat):bK:=(aQ (bZ (jG (dB (aA (g2 eU) (ao 1) (dC (.d (.int 3))))) (dB (aA (g2 jC) (dCall lK (aj (ao 0) (aj (cU (aj (dC (.d (.str "not"))) aH)) aH))) (dC (.d (.str "")))))) (bO (dCall (qm n) (aj (ao 0) (aj (dC (.d (.str "not"))) (aj (dC (.d (.int 3))) aH))))) cV)
 (aQ (bZ (dB (aA (g2 eU) (ao 1) (dC (.d (.int 7))))) (bO (dCall (sV n) (aj (ao 0) aH))) cV)
 (aQ (aZ 2 (aA bf (cU (aj (cU aH) (aj (cU (aj (dC (.d (.str "or"))) aH)) (aj (cU (aj (dC (.d (.str "and"))) aH)) (aj (cU aH) (aj (cU (aj (dC (.d (.str "="))) (aj (dC (.d (.str "!="))) (aj (dC (.d (.str "<"))) (aj (dC (.d (.str "<="))) (aj (dC (.d (.str ">"))) (aj (dC (.d (.str ">="))) aH))))))) (aj (cU (aj (dC (.d (.str "+"))) (aj (dC (.d (.str "-"))) aH))) (aj (cU (aj (dC (.d (.str "*"))) (aj (dC (.d (.str "mod"))) aH))) aH)))))))) (ao 1)))
 (aQ (aZ 3 (dCall (nu n) (aj (ao 0) (aj (aA (g2 aX) (ao 1) (dC (.d (.int 1)))) aH))))
 (aQ (aZ 4 (dCall lK (aj (ao 0) (aj (ao 2) aH))))
 (aQ (pC (dB (aA (g2 jC) (ao 4) (dC (.d (.str ""))))) (aQ (aZ 3 (dTup (aj (ao 4) (aj (ao 3) (aj (dCall (nu n) (aj (ao 0) (aj (aA (g2 aX) (ao 1) (dC (.d (.int 1)))) aH))) aH)))))
 (aZ 4 (jY (dB (aA (g2 jC) (ao 1) (dC (.d (.int 4))))) (dCall lK (aj (ao 0) (aj (ao 2) aH))) (dC (.d (.str "")))))))
 (bO (ao 3))))))))
theorem ag5: ∀xs M R,¬nu 0 xs M R:=by
 rintro xs M R ⟨p,ts,nm,d,o,m,k,r,rfl,_,_,_,_,_,_,h,_⟩
 unfold jg at h
 omega
theorem afp (n:Nat): ∀xs M R,nu n xs M R→xs.length=2:=by
 rintro xs M R ⟨p,ts,nm,d,o,m,k,r,rfl,_⟩
 rfl
theorem aiy: ∀n xs M R,nu (n+1) xs M R→Xe n {nx:=fun _ M'=>R (.d .none) M',rt:=R} (dD X3 xs) M:=by
 rintro n xs M R ⟨p,ts,nm,d,o,m0,k,r,rfl,hk1,hk7,w,hS,h0,h1,hn,hp,hK⟩
 unfold jg at hn
 
 refine aY (fun sl M1=>sl= [some (.raw (.ref p)),some (.d (.int (k:Nat))),none,none,none]∧(k=3→ ∀i,o= .ok i→ ¬dU ts "word" "not" i)∧d9 M1 p ts nm d o∧MK [p] M M1) (fun N hN=> ?_) ?_
 ·refine dN (pA (bU (aO (aG rfl (aN (eqI ?_))))))
  by_cases h3:((k:Nat):Int)=3
  ·have hk:k=3:=by omega
   subst hk
   refine cG (decide_eq_true h3) ?_
   refine bU (aO (JV (p:=p) "not" rfl w hS fun t o' M1 ha hS1 k1=>aN (ne_str ?_)))
   cases ha with
   |err=>exact bW rfl (hN _ _ ⟨rfl,fun _ i z=>(by cases z),hS1,k1⟩)
   |no hno=>
    refine bW rfl (hN _ _ ⟨rfl,fun _ i z q=>hno ?_,hS1,k1⟩)
    cases z
    exact(uX w (by decide+kernel) (by decide+kernel)).mpr q
   |yes hy=>
    rename_i i
    have hy:=(uX w (kind:= "word") (by decide+kernel) (by decide+kernel)).mp hy
    rw [hy.2]
    refine cG rfl (cJ (bQ (aJ (aG rfl (aJ (aN (aJ (aN (aV ?_)))))))))
    cases m0 with
    |zero=>cases hp
    |succ m=>
     have hp:(if dU ts "word" "not" i then jc ts d (i+1) ((pP nm ts m .neg (d+1) (i+1)).then fun a i=>dh (.un .not a) i)else pP nm ts m .cmp d i)=some r:=hp
     rw [if_pos hy]at hp
     exact⟨p,ts,nm,d,.ok (i+1),m,3,.not,r,rfl,.inl rfl,w,hS1,h0,h1,(by unfold jg;omega),hp,fun x M2 hx h2 k2=>hK x M2 hx h2 (k1.trans k2)⟩
  ·refine bW (decide_eq_false h3) (bW rfl (hN _ _ ⟨rfl,fun z=> ?_,hS,MK.refl _ _⟩))
   omega
 rintro sl M1 ⟨rfl,hnot,hS1,k1⟩
 
 refine aY (fun sl M2=>sl= [some (.raw (.ref p)),some (.d (.int (k:Nat))),none,none,none]∧k≤6∧M2=M1) (fun N hN=> ?_) ?_
 ·refine dN (bU (aO (aG rfl (aN (eqI ?_)))))
  refine gq (fun h7=> ?_) (fun h7=>hN _ _ ⟨rfl,by omega,rfl⟩)
  have hk:k=7:=by omega
  subst hk
  refine cJ (bQ (aJ (aG rfl (aV ?_))))
  exact⟨p,ts,nm,d,o,m0,r,rfl,w,hS1,h0,h1,(by unfold jg;omega),hp,fun x M2 hx h2 k2=>hK x M2 hx h2 (k1.trans k2)⟩
 rintro sl M2 ⟨rfl,hk6,rfl⟩
 
 obtain⟨m,W,hp⟩: ∃m W,nxt o (fun i=>(pP nm ts m (lvl (k+1)) d i).then (fun a j=>lZ (rH k) (fW ts (fQ k)) (pP nm ts m (lvl (k+1)) d) (W+1) (fW ts (fQ k) j) a j))=some r:=by
  cases o with
  |error c=>exact⟨0,0,hp⟩
  |ok i=>
   cases m0 with
   |zero=>exact absurd (show pP nm ts 0 (lvl k) d i=some r from hp) (by unfold pP;exact fun z=>(by cases z))
   |succ m=>
    obtain⟨W,h⟩:=afC w hk1 hk6 (show pP nm ts (m+1) (lvl k) d i=some r from hp) fun z=>hnot z i rfl
    exact⟨m,W,h⟩
 refine sq (bL (aft (k:=k) rfl hk1 hk6 ?_))
 rw [agj]
 obtain⟨r1,e1,q1,q2,q3⟩:=uO hp
 have nd:jg (10-(k+1)) d≤n:=by
  unfold jg
  omega
 refine aY (fun sl M3=> ∃(x:PyData) (ZF:Option DV),sl= [some (.raw (.ref p)),some (.d (.int (k:Nat))),some (.d (.list (((fQ k).map Op.s).map PyData.str))),some (.d x),ZF]∧(∀e j,r1= .ok (e,j)→x=e.d)∧d9 M3 p ts nm d (jr r1)∧MK [p] M M3) (fun N hN=> ?_) ?_
 ·refine bL (bQ (aJ (aG rfl (aJ (aO (aG rfl (aN (jE (aV ?_)))))))))
  exact⟨p,ts,nm,d,o,m,k+1,r1,rfl,by omega,by omega,w,hS1,h0,h1,nd,q1,fun x M3 hx h3 k3=>hN _ _ ⟨x,_,rfl,hx,h3,k1.trans k3⟩⟩
 rintro sl M3 ⟨x,ZF,rfl,hx,hS3,k3⟩
 
 have acc: ∀(D:fD) (x:PyData) (u:Option DV) (W:Nat) (r1:Except Int (Ex×Nat)) (e1:Ex) (one:Bool) M3,(∀e j,r1= .ok (e,j)→x=e.d)→(∀e' j,r1= .ok (e',j)→e'=e1)→nxt (jr r1) (fun j=>lZ one (fW ts (fQ k)) (pP nm ts m (lvl (k+1)) d) (W+1) (fW ts (fQ k) j) e1 j)=some r→d9 M3 p ts nm d (jr r1)→
   (∀t o' M4 v,v≤W+1→wY (fW ts (fQ k)) one (pP nm ts m (lvl (k+1)) d) r x o' t v→d9 M4 p ts nm d o'→MK [p] M3 M4→D.nx [some (.raw (.ref p)),some (.d (.int (k:Nat))),some (.d (.list (((fQ k).map Op.s).map PyData.str))),some (.d x),some (.d (.str t))] M4)→
   dCall lK (aj (ao 0) (aj (ao 2) aH)) [some (.raw (.ref p)),some (.d (.int (k:Nat))),some (.d (.list (((fQ k).map Op.s).map PyData.str))),some (.d x),u] M3 fun y M4=>D.nx ([some (.raw (.ref p)),some (.d (.int (k:Nat))),some (.d (.list (((fQ k).map Op.s).map PyData.str))),some (.d x),u].set 4 (some y)) M4:=by
  intro D x u W r1 e1 one M3 hx he hg hS3 hD
  refine bQ (aJ (aG rfl (aJ (aG rfl (aV ?_)))))
  refine⟨p,ts,nm,(fQ k).map Op.s,d,jr r1,rfl,w,hS3,fun t o' M4 ha h4 k4=> ?_⟩
  match r1,hx,he,hg,hS3,ha with
  | .error c,hx,he,hg,hS3,.err=>exact hD _ _ M4 0 (Nat.zero_le _) (.bad (Option.some.inj hg).symm) h4 k4
  | .ok (e,j),hx,he,hg,hS3,.no hno=>
   have hg:lZ one (fW ts (fQ k)) (pP nm ts m (lvl (k+1)) d) (W+1) (fW ts (fQ k) j) e1 j=some r:=hg
   rw [Ik hno]at hg
   have ee:=he e j rfl
   subst ee
   have ex:=hx e j rfl
   subst ex
   exact hD _ _ M4 0 (Nat.zero_le _) (.end (Option.some.inj hg).symm) h4 k4
  | .ok (e,j),hx,he,hg,hS3,.yes hy=>
   obtain⟨op,a1,a2,a3⟩:=Yz hy
   have hg:lZ one (fW ts (fQ k)) (pP nm ts m (lvl (k+1)) d) (W+1) (fW ts (fQ k) j) e1 j=some r:=hg
   rw [a1]at hg
   have ee:=he e j rfl
   subst ee
   have ex:=hx e j rfl
   subst ex
   rw [←a2]
   exact hD _ _ M4 (W+1) (Nat.le_refl _) (.more hg) h4 k4
 refine aY (fun sl M4=> ∃(x:PyData) (t:Str) (o':Except Int Nat) (v:Nat),sl= [some (.raw (.ref p)),some (.d (.int (k:Nat))),some (.d (.list (((fQ k).map Op.s).map PyData.str))),some (.d x),some (.d (.str t))]∧wY (fW ts (fQ k)) (rH k) (pP nm ts m (lvl (k+1)) d) r x o' t v∧d9 M4 p ts nm d o'∧MK [p] M M4) (fun N hN=> ?_) ?_
 ·exact bL (acc {nx:=N,rt:=R} x _ W r1 e1 (rH k) M3 hx (fun e' j z=>(q2 e' j z).1) q3 hS3 fun t o' M4 v _ ha h4 k4=>hN _ _ ⟨x,t,o',v,rfl,ha,h4,k3.trans k4⟩)
 rintro sl M4 ⟨x,t,o',v,rfl,ha,hS4,k4⟩
 refine aY (fun sl M5=> ∃(x:PyData) (t:Str),sl= [some (.raw (.ref p)),some (.d (.int (k:Nat))),some (.d (.list (((fQ k).map Op.s).map PyData.str))),some (.d x),some (.d (.str t))]∧(∀e j,r= .ok (e,j)→x=e.d)∧d9 M5 p ts nm d (jr r)∧MK [p] M M5) (fun N hN=> ?_) ?_
 ·refine⟨fun v sl M5=> ∃(x:PyData) (t:Str) (o':Except Int Nat),sl= [some (.raw (.ref p)),some (.d (.int (k:Nat))),some (.d (.list (((fQ k).map Op.s).map PyData.str))),some (.d x),some (.d (.str t))]∧wY (fW ts (fQ k)) (rH k) (pP nm ts m (lvl (k+1)) d) r x o' t v∧d9 M5 p ts nm d o'∧MK [p] M M5,⟨v,x,t,o',rfl,ha,hS4,k4⟩,?_⟩
  rintro v sl M5 ⟨x,t,o',rfl,ha,hS5,k5⟩
  refine bU (aO (aG rfl (aN (ne_str ?_))))
  cases ha with
  |bad hr=>
   refine bW rfl (hN _ _ ⟨x,_,rfl,fun e j z=> ?_,?_,k5⟩)
   ·rw [hr]at z
    cases z
   ·rw [hr]
    exact hS5
  | «end» hr=>
   refine bW rfl (hN _ _ ⟨_,_,rfl,fun e j z=> ?_,?_,k5⟩)
   ·rw [hr]at z
    cases z
    rfl
   ·rw [hr]
    exact hS5
  |more hg=>
   rename_i e j W op
   rw [decide_eq_false (Vf op)]
   refine cG rfl ?_
   have hg:nxt (.ok (j+1)) (fun i=>(pP nm ts m (lvl (k+1)) d i).then fun b i=>lZ (rH k) (fW ts (fQ k)) (pP nm ts m (lvl (k+1)) d) W (if rH k=true then none else fW ts (fQ k) i) (.bin op e b) i)=some r:=hg
   obtain⟨r2,b,u1,u2,u3⟩:=uO hg
   refine aY (fun sl M6=> ∃(y:PyData),sl= [some (.raw (.ref p)),some (.d (.int (k:Nat))),some (.d (.list (((fQ k).map Op.s).map PyData.str))),some (.d (.tuple [.str op.s,e.d,y])),some (.d (.str op.s))]∧(∀e j,r2= .ok (e,j)→y=e.d)∧d9 M6 p ts nm d (jr r2)∧MK [p] M M6) (fun N1 hN1=> ?_) ?_
   ·refine bL (aJ (aG rfl (aJ (aG rfl (aJ ?_)))))
    refine bQ (aJ (aG rfl (aJ (aO (aG rfl (aN (jE (aV ?_))))))))
    refine⟨p,ts,nm,d,.ok (j+1),m,k+1,r2,rfl,by omega,by omega,w,hS5,h0,h1,nd,u1,fun y M6 hy h6 k6=> ?_⟩
    refine aV ?_
    refine dR (ds:= [.str op.s,e.d,y]) ?_
    exact hN1 _ _ ⟨y,rfl,hy,h6,k5.trans k6⟩
   rintro sl M6 ⟨y,rfl,hy,hS6,k6⟩
   have hx2: ∀e' j',r2= .ok (e',j')→(.tuple [.str op.s,e.d,y]:PyData)=(Ex.bin op e b).d:=fun e' j' z=>by
    have:=(u2 e' j' z).1
    subst this
    rw [hy _ _ z]
    rfl
   refine bL (oG (bU (aO (aG rfl (aN ?_)))))
   show if (!decide (((k:Nat):Int)=4))=true then _ else _
   by_cases h4:k=4
   ·subst h4
    refine bW rfl (aN ?_)
    have u3:nxt (jr r2) (fun i=>lZ true (fW ts (fQ 4)) (pP nm ts m (lvl 5) d) W none (.bin op e b) i)=some r:=u3
    match r2,hx2,u3,hS6 with
    | .error c,hx2,u3,hS6=>exact⟨0,by omega,_,_,_,rfl,.bad (Option.some.inj u3).symm,hS6,k6⟩
    | .ok (e',j'),hx2,u3,hS6=>
     rw [hx2 e' j' rfl]
     cases W with
     |zero=>cases u3
     |succ W=>exact⟨0,by omega,_,_,_,rfl,.end (Option.some.inj u3).symm,hS6,k6⟩
   ·have hI: ¬((k:Nat):Int)=4:=by omega
    rw [decide_eq_false hI]
    refine cG rfl ?_
    have o4:rH k=false:=decide_eq_false h4
    rw [o4]at u3
    have u3:nxt (jr r2) (fun i=>lZ false (fW ts (fQ k)) (pP nm ts m (lvl (k+1)) d) W (fW ts (fQ k) i) (.bin op e b) i)=some r:=u3
    cases W with
    |zero=>
     match r2,u3,hS6 with
     | .error c,u3,hS6=>
      refine bQ (aJ (aG rfl (aJ (aG rfl (aV ?_)))))
      refine⟨p,ts,nm,(fQ k).map Op.s,d,.error c,rfl,w,hS6,fun t o' M7 ha h7 k7=> ?_⟩
      cases ha
      exact⟨0,by omega,_,_,_,rfl,.bad (Option.some.inj u3).symm,h7,k6.trans k7⟩
     | .ok (e',j'),u3,hS6=>cases u3
    |succ W=>
     have e3:=acL (.bin op e b) r2
     have r3e: ∀e' j',FW (.bin op e b) r2= .ok (e',j')→e'= .bin op e b∧ ∃e2,r2= .ok (e2,j'):=fun e' j' z=>ab7 z
     rw [←e3]at u3 hS6
     refine acc {nx:=fun sl' M'=> ∃m',m'<W+1+1∧ ∃(x:PyData) (t:Str) (o':Except Int Nat),sl'= [some (.raw (.ref p)),some (.d (.int (k:Nat))),some (.d (.list (((fQ k).map Op.s).map PyData.str))),some (.d x),some (.d (.str t))]∧wY (fW ts (fQ k)) (rH k) (pP nm ts m (lvl (k+1)) d) r x o' t m'∧d9 M' p ts nm d o'∧MK [p] M M',rt:=R} _ _ W (FW (.bin op e b) r2) (.bin op e b) false M6 (fun e' j' z=> ?_) (fun e' j' z=>(r3e e' j' z).1) u3 hS6 fun t o' M7 v hv ha h7 k7=> ?_
     ·obtain⟨z1,e2,z2⟩:=r3e e' j' z
      rw [z1]
      exact hx2 e2 j' z2
     ·rw [←o4]at ha
      exact⟨v,by omega,_,t,o',rfl,ha,h7,k6.trans k7⟩
 rintro sl M5 ⟨x,t,rfl,hx,hS5,k5⟩
 exact cJ (aG rfl (hK x M5 hx hS5 k5))
theorem agr (n:Nat) {P:Program} {w:World} {K:PySem.W.Frag} {mg:Str→Option Value} {base:Heap} {dV:Value} {f:Addr} {fd:FuncData} (F:dw K "_law_chain" "_law_chain" uD dV f fd) (mW:Def P w K mg base "_law_accept" 1 lK) (Ir:Def P w K mg base "_law_under" (3+n) (qm n)) (ZG:Def P w K mg base "_law_factor" (3+n) (sV n)) (xg:Def P w K mg base "_law_chain" (3+n) (nu n)):bM P w K mg base CX0 (3+n+1) f fd ["parser","rank"] (dO K (nu (n+1))):=
 F.data yq (afp (n+1)) (Xe n) (fun cdv A outer s H E hg hr=>
  (aR (cP (jU (oX (bJ (gj hr) (au 1) aP (nomark _)) (qu (bJ (mO hr) (mW.de hg (hr.mono (by omega)) (by rfl) (aq (au 0) (aq (dZ (aq aK aM)) aM))) aK (nomark _))))) (aW (b_ (Ir.de hg (hr.mono (Nat.le_refl _)) (by rfl) (aq (au 0) (aq aK (aq aP aM)))))) cW)
   (aR (cP (bJ (gj hr) (au 1) aP (nomark _)) (aW (b_ (ZG.de hg (hr.mono (Nat.le_refl _)) (by rfl) (aq (au 0) aM)))) cW)
   (aR (bx (i:=2) yq.nd rfl (by first|exact Or.inl rfl|exact Or.inr rfl) (cH (dZ (aq (dZ aM) (aq (dZ (aq aK aM)) (aq (dZ (aq aK aM)) (aq (dZ aM) (aq (dZ (aq aK (aq aK (aq aK (aq aK (aq aK (aq aK aM))))))) (aq (dZ (aq aK (aq aK aM))) (aq (dZ (aq aK (aq aK aM))) aM)))))))) (au 1)))
   (aR (bx (i:=3) yq.nd rfl (by first|exact Or.inl rfl|exact Or.inr rfl) (xg.de hg (hr.mono (Nat.le_refl _)) (by rfl) (aq (au 0) (aq (aU bH (au 1) aP) aM))))
   (aR (bx (i:=4) yq.nd rfl (by first|exact Or.inl rfl|exact Or.inr rfl) (mW.de hg (hr.mono (by omega)) (by rfl) (aq (au 0) (aq (au 2) aM))))
   (aR (sW PassesOwn.never (bJ (mO hr) (au 4) aK (nomark _)) (aR (bx (i:=3) yq.nd rfl (by first|exact Or.inl rfl|exact Or.inr rfl) (dG (aq (au 4) (aq (au 3) (aq (xg.de hg (hr.mono (Nat.le_refl _)) (by rfl) (aq (au 0) (aq (aU bH (au 1) aP) aM))) aM)))))
   (aW (bx (i:=4) yq.nd rfl (by first|exact Or.inl rfl|exact Or.inr rfl) (n_ (bJ (mO hr) (au 1) aP (nomark _)) (mW.de hg (hr.mono (by omega)) (by rfl) (aq (au 0) (aq (au 2) aM))) aK)))))
   (aW (b_ (au 3)))))))))) (aiy n)
abbrev sS:Stmt:=topS 51
abbrev Xk:List Str:= ["parser","operator","rank","found"]
theorem Yw:FnScope Xk ["parser","operator","rank"] (defScope sS):=⟨rfl,rfl,rfl,by decide+kernel,rfl,by decide+kernel,by decide+kernel⟩
def UJ (n:Nat):bK:=(aQ (jt (aA (g2 aX) (aA bf (ao 0) (dC (.d (.int 2)))) (dC (.d (.int 1)))) (ao 0) (dC (.d (.int 2))))
 (aQ (bZ (dB (aA (g2 (jX fun i j=>decide (j<i))) (aA bf (ao 0) (dC (.d (.int 2)))) (dC (.d (.int 30))))) (gW (dCall nM (aj (ao 0) aH))) cV)
 (aQ (aZ 3 (dTup (aj (ao 1) (aj (jY (dB (aA kZ (aA bf (ao 0) (dC (.d (.int 3)))) (dC (.d .none)))) (dTup (aj (dC (.d (.str "int"))) (aj (dC (.d (.int 0))) aH))) (dCall (nu n) (aj (ao 0) (aj (ao 2) aH)))) aH))))
 (aQ (jt (aA (g2 (intOp (· - ·))) (aA bf (ao 0) (dC (.d (.int 2)))) (dC (.d (.int 1)))) (ao 0) (dC (.d (.int 2))))
 (bO (ao 3))))))
theorem afu: ∀xs M R,¬qm 0 xs M R:=by
 rintro xs M R ⟨p,ts,nm,d,o,m,k,u,r,rfl,_,_,_,_,_,h,_⟩
 unfold jg at h
 omega
theorem adY (n:Nat): ∀xs M R,qm n xs M R→xs.length=3:=by
 rintro xs M R ⟨p,ts,nm,d,o,m,k,u,r,rfl,_⟩
 rfl
theorem aei: ∀n xs M R,qm (n+1) xs M R→UJ n {nx:=fun _ M'=>R (.d .none) M',rt:=R} (dD Xk xs) M:=by
 rintro n xs M R ⟨p,ts,nm,d,o,m,k,u,r,rfl,hk,w,hS,h0,h1,hn,hp,hK⟩
 unfold jg at hn
 refine sq (V1 (p:=p) rfl hS fun M1 hS1 k1=> ?_)
 refine sq (Vu (p:=p) rfl hS1 fun M2 hS2 k2=> ?_)
 have hp2:=T6 hp
 have k12:=k1.trans k2
 refine aY (fun sl M3=> ∃(x:PyData),sl= [some (.raw (.ref p)),some (.d (.str u.s)),some (.d (.int (k:Nat))),some (.d x)]∧(∀e j,r= .ok (e,j)→x=e.d)∧d9 M3 p ts nm (d+1) (jr r)∧MK [p] M M3) (fun N hN=> ?_) ?_
 ·refine bL (aJ (aG rfl (aJ (oG (Dh (p:=p) rfl hS2 ?_)))))
  cases ho:xR ts d o with
  |error c=>
   rw [ho]at hp2 hS2
   refine cG rfl (Gq (aV ?_))
   refine dR (ds:= [.str u.s,.tuple [.str "int",.int 0]]) ?_
   have hr:r= .error c:=(Option.some.inj hp2).symm
   refine hN _ _ ⟨_,rfl,fun e j z=>(by rw [hr]at z;cases z),?_,k12⟩
   rw [hr]
   exact hS2
  |ok i=>
   have hd:=(Ub ho).2
   rw [ho]at hp2 hS2
   refine bW rfl ?_
   obtain⟨r1,e1,q1,q2,q3⟩:=uO hp2
   refine bQ (aJ (aG rfl (aJ (aG rfl (aV ?_)))))
   refine⟨p,ts,nm,d+1,.ok i,m,k,r1,rfl,by omega,by omega,w,hS2,by omega,hd,?_,q1,fun x M3 hx hS3 k3=> ?_⟩
   ·unfold jg
    omega
   refine aV ?_
   refine dR (ds:= [.str u.s,x]) ?_
   refine hN _ _ ⟨_,rfl,fun e j z=> ?_,?_,k12.trans k3⟩
   ·rw [z]at q3
    obtain⟨rfl,e3⟩:=Ku q3
    obtain⟨e',e4⟩:=vo e3
    have e5:=(q2 e' j e4).1
    subst e5
    rw [hx _ _ e4]
    rfl
   ·rw [K7 q3]
    exact hS3
 rintro sl M3 ⟨x,rfl,hx,hS3,k3⟩
 refine sq (Vt (p:=p) rfl hS3 fun M4 hS4 k4=> ?_)
 dsimp only
 exact cJ (aG rfl (hK x M4 hx hS4 (k3.trans k4)))
theorem aia (n:Nat) {P:Program} {w:World} {K:PySem.W.Frag} {mg:Str→Option Value} {base:Heap} {dV:Value} {f:Addr} {fd:FuncData} (F:dw K "_law_under" "_law_under" sS dV f fd) (pW:Def P w K mg base "_law_stop" 1 nM) (xg:Def P w K mg base "_law_chain" (3+n) (nu n)):bM P w K mg base CX0 (3+n+1) f fd ["parser","operator","rank"] (dO K (qm (n+1))):=
 F.data Yw (adY (n+1)) (UJ n) (fun cdv A outer s H E hg hr=>
  (aR (pD (aU bH (cH (au 0) aP) aP) (au 0) aP)
   (aR (cP (bJ rM (cH (au 0) aP) aP (nomark _)) (aW (ju (pW.de hg (hr.mono (by omega)) (by rfl) (aq (au 0) aM)))) cW)
   (aR (bx (i:=3) Yw.nd rfl (by first|exact Or.inl rfl|exact Or.inr rfl) (dG (aq (au 1) (aq (n_ (bJ oY (cH (au 0) aP) fY (nomark _)) (dG (aq aK (aq aP aM))) (xg.de hg (hr.mono (Nat.le_refl _)) (by rfl) (aq (au 0) (aq (au 2) aM)))) aM))))
   (aR (pD (aU zj (cH (au 0) aP) aP) (au 0) aP)
   (aW (b_ (au 3)))))))) (aei n)
abbrev rZ:Stmt:=topS 52
abbrev Yy:List Str:= ["parser","kind","text","column","call","found"]
theorem wO:FnScope Yy ["parser"] (defScope rZ):=⟨rfl,rfl,rfl,by decide+kernel,rfl,by decide+kernel,by decide+kernel⟩
def VN (n:Nat):bK:=(aQ (zU (aA bf (aA bf (ao 0) (dC (.d (.int 0)))) (aA bf (ao 0) (dC (.d (.int 1))))) (w6 3 (nA (iT 1) (nA (iT 2) (nA (iT 3) wH)))))
 (aQ (bZ (dB (aA kZ (aA bf (ao 0) (dC (.d (.int 3)))) (dC (.d .none)))) (bO (dTup (aj (dC (.d (.str "int"))) (aj (dC (.d (.int 0))) aH)))) cV)
 (aQ (bZ (mD (dB (aA (g2 eU) (ao 1) (dC (.d (.str "number"))))) (jG (dB (aA (g2 eU) (ao 1) (dC (.d (.str "name"))))) (dB (aA (g2 (inD false)) (ao 2) (aA bf (ao 0) (dC (.d (.int 4)))))))) (aQ (jt (aA (g2 aX) (aA bf (ao 0) (dC (.d (.int 1)))) (dC (.d (.int 1)))) (ao 0) (dC (.d (.int 1))))
 (bO (jY (dB (aA (g2 eU) (ao 1) (dC (.d (.str "number"))))) (dTup (aj (dC (.d (.str "int"))) (aj (dCall (g1 KH) (aj (ao 2) aH)) aH))) (dTup (aj (dC (.d (.str "name"))) (aj (ao 2) aH)))))) cV)
 (aQ (bZ (dB (aA (g2 jC) (dCall lK (aj (ao 0) (aj (cU (aj (dC (.d (.str "-"))) aH)) aH))) (dC (.d (.str ""))))) (bO (dCall (qm n) (aj (ao 0) (aj (dC (.d (.str "neg"))) (aj (dC (.d (.int 7))) aH))))) cV)
 (aQ (aZ 4 (dCall lK (aj (ao 0) (aj (cU (aj (dC (.d (.str "min"))) (aj (dC (.d (.str "max"))) aH))) aH))))
 (aQ (gW (dCall pN (aj (ao 0) (aj (dC (.d (.str "("))) aH))))
 (aQ (aZ 5 (dCall (lJ n) (aj (ao 0) aH)))
 (aQ (bZ (dB (aA (g2 jC) (ao 4) (dC (.d (.str ""))))) (aQ (gW (dCall pN (aj (ao 0) (aj (dC (.d (.str ","))) aH))))
 (aZ 5 (dTup (aj (ao 4) (aj (ao 5) (aj (dCall (lJ n) (aj (ao 0) aH)) aH)))))) cV)
 (aQ (gW (dCall pN (aj (ao 0) (aj (dC (.d (.str ")"))) aH))))
 (bO (ao 5)))))))))))
theorem ach: ∀xs M R,¬sV 0 xs M R:=by
 rintro xs M R ⟨p,ts,nm,d,o,m,r,rfl,_,_,_,_,h,_⟩
 unfold jg at h
 omega
theorem aeC (n:Nat): ∀xs M R,sV n xs M R→xs.length=1:=by
 rintro xs M R ⟨p,ts,nm,d,o,m,r,rfl,_⟩
 rfl
theorem adM: ∀n xs M R,sV (n+1) xs M R→VN n {nx:=fun _ M'=>R (.d .none) M',rt:=R} (dD Yy xs) M:=by
 rintro n xs M R ⟨p,ts,nm,d,o,m0,r,rfl,w,hS,h0,h1,hn,hp,hK⟩
 unfold jg at hn
 have nd:jg 1 d≤n:=by
  unfold jg
  omega
 have hS0:=hS
 obtain⟨i,d',pr,hA,hi,hc⟩:=hS
 refine aY (fun sl M1=>sl= [some (.raw (.ref p)),some (.d (.str (tk ts i).kind)),some (.d (.str (tk ts i).text)),some (.d (.int (tk ts i).col)),none,none]∧M1=M) (fun N hN=> ?_) ?_
 ·refine Hf (JL (p:=p) rfl hA hi ?_)
  exact⟨rfl,nQ (jL (nQ (jL (nQ (jL (zJ (hN _ _ ⟨rfl,rfl⟩)))))))⟩
 rintro sl M1 ⟨rfl,rfl⟩
 cases ho:o with
 |error c=>
  subst ho
  refine sq (dN (Dh (p:=p) rfl hS0 (cG rfl (cJ (Gq ?_)))))
  exact W8 hK (Option.some.inj hp).symm hS0 (MK.refl _ _) _
 |ok i0=>
 subst ho
 have ei:i0=i∧pr=none∧d'=d:=by
  rcases hc with⟨h1,h2,h3⟩|⟨c,_,h2⟩
  ·cases h2
   exact⟨rfl,h1,h3⟩
  ·cases h2
 obtain⟨rfl,rfl,rfl⟩:=ei
 refine sq (dN (Dh (p:=p) rfl hS0 (bW rfl ?_)))
 cases m0 with
 |zero=>cases hp
 |succ m=>
 have hp:(if (tk ts i0).kind= "number" then dh (.int (NumText.digitsVal (sg (tk ts i0).text):Nat)) (i0+1)
   else if (tk ts i0).kind= "name" then(if (tk ts i0).text∈nm then dh (.name (tk ts i0).text) (i0+1)else some (.error (tk ts i0).col))
   else if dU ts "symbol" "-" i0 then jc ts d' (i0+1) ((pP nm ts m .fac (d'+1) (i0+1)).then fun a i=>dh (.un .neg a) i)
   else match cQ ts "word" [.min,.max] i0 with
    |none=>cX ts "symbol" "(" i0 fun i=>(pP nm ts m .expr d' i).then fun a i=>cX ts "symbol" ")" i fun i=>dh a i
    |some o=>cX ts "symbol" "(" (i0+1) fun i=>(pP nm ts m .expr d' i).then fun a i=>cX ts "symbol" "," i fun i=>(pP nm ts m .expr d' i).then fun b i=>cX ts "symbol" ")" i fun i=>dh (.bin o a b) i)=some r:=hp
 
 refine aY (fun sl M2=>sl= [some (.raw (.ref p)),some (.d (.str (tk ts i0).kind)),some (.d (.str (tk ts i0).text)),some (.d (.int (tk ts i0).col)),none,none]∧(tk ts i0).kind≠ "number" ∧((tk ts i0).kind= "name" →(tk ts i0).text∉nm)∧M2=M1) (fun N hN=> ?_) ?_
 ·refine dN (tV (bU (aO (aG rfl (aN (eq_str ?_))))))
  have adv:(tk ts i0).kind≠ "end" →i0+1<ts.length:=rF w.ok
  by_cases hk:(tk ts i0).kind= "number"
  ·rw [if_pos hk]at hp
   obtain⟨hn1,hn2⟩:=w.ok.num _ (List.mem_of_getElem? (nO hi)) hk
   have hl:=adv (by rw [hk];decide+kernel)
   refine cG (decide_eq_true hk) (cG rfl (sq (Jc (p:=p) rfl hA fun M2 hA2 k2=> ?_)))
   dsimp only
   refine cJ (oG (bU (aO (aG rfl (aN (eq_str (cG (decide_eq_true hk) ?_)))))))
   refine aJ (aN (aJ ?_))
   refine bQ (aJ (aG rfl (aV ?_)))
   refine bB hn1 ⟨hn2,?_⟩
   refine aV ?_
   refine dR (ds:= [.str "int",.int ((NumText.digitsVal (sg (tk ts i0).text):Nat):Int)]) ?_
   have hr:r= .ok (_,_):=(Option.some.inj hp).symm
   refine hK _ M2 (fun e j z=> ?_) ?_ k2
   ·rw [hr]at z
    cases z
    rfl
   ·rw [hr]
    exact⟨i0+1,d',none,hA2,hl,.inl ⟨rfl,rfl,rfl⟩⟩
  ·rw [if_neg hk]at hp
   refine bW (decide_eq_false hk) (pA (bU (aO (aG rfl (aN (eq_str ?_))))))
   by_cases hm:(tk ts i0).kind= "name"
   ·rw [if_pos hm]at hp
    refine cG (decide_eq_true hm) (bU (aO (aG rfl (uz (p:=p) (v:= .d (.list (nm.map PyData.str))) rfl hA rfl (Ho ?_)))))
    by_cases hin:(tk ts i0).text∈nm
    ·rw [if_pos hin]at hp
     have hl:=adv (by rw [hm];decide+kernel)
     refine cG (decide_eq_true hin) (sq (Jc (p:=p) rfl hA fun M2 hA2 k2=> ?_))
     dsimp only
     refine cJ (oG (bU (aO (aG rfl (aN (eq_str (bW (decide_eq_false hk) ?_)))))))
     refine aJ (aN (aJ (aG rfl (aV ?_))))
     refine dR (ds:= [.str "name",.str (tk ts i0).text]) ?_
     have hr:r= .ok (_,_):=(Option.some.inj hp).symm
     refine hK _ M2 (fun e j z=> ?_) ?_ k2
     ·rw [hr]at z
      cases z
      rfl
     ·rw [hr]
      exact⟨i0+1,d',none,hA2,hl,.inl ⟨rfl,rfl,rfl⟩⟩
    ·exact bW (decide_eq_false hin) (hN _ _ ⟨rfl,hk,fun _=>hin,rfl⟩)
   ·exact bW (decide_eq_false hm) (bW rfl (hN _ _ ⟨rfl,hk,fun z=>absurd z hm,rfl⟩))
 rintro sl M2 ⟨rfl,hk,hm,rfl⟩
 rw [if_neg hk]at hp
 
 have hp:(if dU ts "symbol" "-" i0 then jc ts d' (i0+1) ((pP nm ts m .fac (d'+1) (i0+1)).then fun a i=>dh (.un .neg a) i)
   else match fW ts [.min,.max] i0 with
    |none=>cX ts "symbol" "(" i0 fun i=>(pP nm ts m .expr d' i).then fun a i=>cX ts "symbol" ")" i fun i=>dh a i
    |some o=>cX ts "symbol" "(" (i0+1) fun i=>(pP nm ts m .expr d' i).then fun a i=>cX ts "symbol" "," i fun i=>(pP nm ts m .expr d' i).then fun b i=>cX ts "symbol" ")" i fun i=>dh (.bin o a b) i)=some r:=by
  rw [vR w (kind:= "word") (by decide+kernel) (by decide+kernel)]at hp
  by_cases h:(tk ts i0).kind= "name"
  ·rw [if_pos h,if_neg (hm h)]at hp
   have n1: ¬dU ts "symbol" "-" i0:=fun z=>absurd (h.symm.trans z.1) (by decide+kernel)
   have n2: ¬dU ts "symbol" "(" i0:=fun z=>absurd (h.symm.trans z.1) (by decide+kernel)
   have n3:fW ts [.min,.max] i0=none:=Ik fun z=>by
    have:=z.1
    rw [h]at this
    exact absurd this (by decide+kernel)
   rw [if_neg n1,n3]
   show cX ts "symbol" "(" i0 _=_
   unfold cX
   rw [if_neg n2]
   exact hp
  ·rw [if_neg h]at hp
   exact hp
 
 refine aY (fun sl M3=>sl= [some (.raw (.ref p)),some (.d (.str (tk ts i0).kind)),some (.d (.str (tk ts i0).text)),some (.d (.int (tk ts i0).col)),none,none]∧ ¬dU ts "symbol" "-" i0∧d9 M3 p ts nm d' (.ok i0)∧MK [p] M2 M3) (fun N hN=> ?_) ?_
 ·refine dN (bU (aO (JV (p:=p) "-" rfl w hS0 fun t o' M3 ha hS3 k3=>aN (ne_str ?_))))
  cases ha with
  |no hno=>exact bW rfl (hN _ _ ⟨rfl,fun z=>hno ((uX w (by decide+kernel) (by decide+kernel)).mpr z),hS3,k3⟩)
  |yes hy=>
   have hy:=(uX w (kind:= "symbol") (by decide+kernel) (by decide+kernel)).mp hy
   rw [hy.2]
   rw [if_pos hy]at hp
   refine cG rfl (cJ (bQ (aJ (aG rfl (aJ (aN (aJ (aN (aV ?_)))))))))
   exact⟨p,ts,nm,d',.ok (i0+1),m,7,.neg,r,rfl,.inr rfl,w,hS3,h0,h1,nd,hp,fun x M4 hx h4 k4=>hK x M4 hx h4 (k3.trans k4)⟩
 rintro sl M3 ⟨rfl,hneg,hS3,k3⟩
 rw [if_neg hneg]at hp
 
 refine aY (fun sl M4=> ∃(t:Str) (o4:Except Int Nat) (c4:Option Op),sl= [some (.raw (.ref p)),some (.d (.str (tk ts i0).kind)),some (.d (.str (tk ts i0).text)),some (.d (.int (tk ts i0).col)),some (.d (.str t)),none]∧t=Gx c4∧nxt o4 (fun i=>cX ts "symbol" "(" i fun i=>(pP nm ts m .expr d' i).then fun a i=>match c4 with
   |none=>cX ts "symbol" ")" i fun i=>dh a i
   |some o=>cX ts "symbol" "," i fun i=>(pP nm ts m .expr d' i).then fun b i=>cX ts "symbol" ")" i fun i=>dh (.bin o a b) i)=some r∧d9 M4 p ts nm d' o4∧MK [p] M2 M4) (fun N hN=> ?_) ?_
 ·refine bL (bQ (aJ (aG rfl (aJ ?_))))
  refine bB rfl ⟨Nat.le_of_ble_eq_true rfl,aV ?_⟩
  refine⟨p,ts,nm,["min","max"],d',.ok i0,rfl,w,hS3,fun t o' M4 ha h4 k4=> ?_⟩
  cases ha with
  |no hno=>
   rw [Ik (l:= [.min,.max]) hno]at hp
   exact hN _ _ ⟨_,.ok i0,none,rfl,rfl,hp,h4,k3.trans k4⟩
  |yes hy=>
   obtain⟨op,a1,a2,a3⟩:=Yz (l:= [.min,.max]) hy
   rw [a1]at hp
   exact hN _ _ ⟨_,.ok (i0+1),some op,rfl,a2.symm,hp,h4,k3.trans k4⟩
 rintro sl M4 ⟨t,o4,c4,rfl,rfl,hp4,hS4,k4⟩
 refine sq (Ce (p:=p) "symbol" "(" rfl w hS4 (by decide+kernel) (by decide+kernel) (by decide+kernel) fun M5 hS5 k5=> ?_)
 dsimp only
 have k5:=k4.trans k5
 obtain⟨r1,a,q1,q2,q3⟩:=uO (Ck hp4)
 refine aY (fun sl M6=> ∃(x1:PyData),sl= [some (.raw (.ref p)),some (.d (.str (tk ts i0).kind)),some (.d (.str (tk ts i0).text)),some (.d (.int (tk ts i0).col)),some (.d (.str (Gx c4))),some (.d x1)]∧(∀e j,r1= .ok (e,j)→x1=e.d)∧d9 M6 p ts nm d' (jr r1)∧MK [p] M2 M6) (fun N1 hN1=> ?_) ?_
 ·exact bL (Df (p:=p) rfl w hS5 h0 h1 nd q1 fun x M6 hx hS6 k6=>hN1 _ _ ⟨x,rfl,hx,hS6,k5.trans k6⟩)
 rintro sl M6 ⟨x1,rfl,hx1,hS6,k6⟩
 
 refine aY (fun sl M7=> ∃(x:PyData) (o7:Except Int Nat) (e7:Ex),sl= [some (.raw (.ref p)),some (.d (.str (tk ts i0).kind)),some (.d (.str (tk ts i0).text)),some (.d (.int (tk ts i0).col)),some (.d (.str (Gx c4))),some (.d x)]∧(∀j,o7= .ok j→x=e7.d)∧nxt o7 (fun i=>cX ts "symbol" ")" i fun i=>dh e7 i)=some r∧d9 M7 p ts nm d' o7∧MK [p] M2 M7) (fun N hN=> ?_) ?_
 ·refine dN (bU (aO (aG rfl (aN (ne_str ?_)))))
  cases c4 with
  |none=>
   refine bW rfl (hN _ _ ⟨x1,jr r1,a,rfl,fun j z=> ?_,q3,hS6,k6⟩)
   obtain⟨e',f⟩:=vo z
   rw [←(q2 e' j f).1]
   exact hx1 _ _ f
  |some op=>
   have on: ¬Gx (some op)= "" :=Vf op
   rw [decide_eq_false on]
   refine cG rfl ?_
   refine sq (Ce (p:=p) "symbol" "," rfl w hS6 (by decide+kernel) (by decide+kernel) (by decide+kernel) fun M8 hS8 k8=> ?_)
   dsimp only
   have k8:=k6.trans k8
   obtain⟨r2,b,u1,u2,u3⟩:=uO (Ck q3)
   refine bL (aJ (aG rfl (aJ (aG rfl (aJ ?_)))))
   refine Df (p:=p) rfl w hS8 h0 h1 nd u1 fun x2 M9 hx2 hS9 k9=> ?_
   refine aV ?_
   refine dR (ds:= [.str op.s,x1,x2]) ?_
   refine hN _ _ ⟨_,jr r2,.bin op a b,rfl,fun j z=> ?_,u3,hS9,k8.trans k9⟩
   obtain⟨b',f2⟩:=vo z
   obtain⟨g2,i2,e2⟩:=u2 b' j f2
   obtain⟨i1,e1⟩:=G8 e2
   obtain⟨a',f1⟩:=vo e1
   obtain⟨g1,_⟩:=q2 a' i1 f1
   subst g1 g2
   rw [hx1 _ _ f1,hx2 _ _ f2]
   rfl
 rintro sl M7 ⟨x,o7,e7,rfl,hx,hp7,hS7,k7⟩
 refine sq (Ce (p:=p) "symbol" ")" rfl w hS7 (by decide+kernel) (by decide+kernel) (by decide+kernel) fun M8 hS8 k8=> ?_)
 dsimp only
 have q:=Ck hp7
 refine cJ (aG rfl (hK x M8 (fun e j z=> ?_) ?_ (k7.trans k8)))
 ·rw [z]at q
  obtain⟨rfl,e3⟩:=Ku q
  obtain⟨i2,e2⟩:=G8 e3
  exact hx i2 e2
 ·rw [K7 q]
  exact hS8
theorem afb (n:Nat) {P:Program} {w:World} {K:PySem.W.Frag} {mg:Str→Option Value} {base:Heap} {dV:Value} {f:Addr} {fd:FuncData} (F:dw K "_law_factor" "_law_factor" rZ dV f fd) (mW:Def P w K mg base "_law_accept" 1 lK) (Ir:Def P w K mg base "_law_under" (3+n) (qm n)) (uE:Def P w K mg base "_law_demand" 2 pN) (rP:Def P w K mg base "_law_whole" (3+n) (lJ n)) (oR:mg "int" =none):bM P w K mg base CX0 (3+n+1) f fd ["parser"] (dO K (sV (n+1))):=
 F.data wO (aeC (n+1)) (VN n) (fun cdv A outer s H E hg hr=>
  (aR (Fv (cH (cH (au 0) aP) (cH (au 0) aP)) (Ds rfl (pK (jf (i:=1) wO.nd rfl (by first|exact Or.inl rfl|exact Or.inr rfl)) (pK (jf (i:=2) wO.nd rfl (by first|exact Or.inl rfl|exact Or.inr rfl)) (pK (jf (i:=3) wO.nd rfl (by first|exact Or.inl rfl|exact Or.inr rfl)) Bl)))))
   (aR (cP (bJ oY (cH (au 0) aP) fY (nomark _)) (aW (b_ (dG (aq aK (aq aP aM))))) cW)
   (aR (cP (jU (qT (bJ (gj hr) (au 1) aK (nomark _)) (tD (jU (oX (bJ (gj hr) (au 1) aK (nomark _)) (qu (bJ (jP hr) (au 2) (cH (au 0) aP) rfl))))))) (aR (pD (aU bH (cH (au 0) aP) aP) (au 0) aP)
   (aW (b_ (n_ (bJ (gj hr) (au 1) aK (nomark _)) (dG (aq aK (aq (wD Uk (by rfl) oR (by decide+kernel) (aq (au 2) aM)) aM))) (dG (aq aK (aq (au 2) aM))))))) cW)
   (aR (cP (bJ (mO hr) (mW.de hg (hr.mono (by omega)) (by rfl) (aq (au 0) (aq (dZ (aq aK aM)) aM))) aK (nomark _)) (aW (b_ (Ir.de hg (hr.mono (Nat.le_refl _)) (by rfl) (aq (au 0) (aq aK (aq aP aM)))))) cW)
   (aR (bx (i:=4) wO.nd rfl (by first|exact Or.inl rfl|exact Or.inr rfl) (mW.de hg (hr.mono (by omega)) (by rfl) (aq (au 0) (aq (dZ (aq aK (aq aK aM))) aM))))
   (aR (ju (uE.de hg (hr.mono (by omega)) (by rfl) (aq (au 0) (aq aK aM))))
   (aR (bx (i:=5) wO.nd rfl (by first|exact Or.inl rfl|exact Or.inr rfl) (rP.de hg (hr.mono (Nat.le_refl _)) (by rfl) (aq (au 0) aM)))
   (aR (cP (bJ (mO hr) (au 4) aK (nomark _)) (aR (ju (uE.de hg (hr.mono (by omega)) (by rfl) (aq (au 0) (aq aK aM))))
   (aW (bx (i:=5) wO.nd rfl (by first|exact Or.inl rfl|exact Or.inr rfl) (dG (aq (au 4) (aq (au 5) (aq (rP.de hg (hr.mono (Nat.le_refl _)) (by rfl) (aq (au 0) aM)) aM))))))) cW)
   (aR (ju (uE.de hg (hr.mono (by omega)) (by rfl) (aq (au 0) (aq aK aM))))
   (aW (b_ (au 5))))))))))))) (adM n)
abbrev zu:Stmt:=topS 53
abbrev U5:List Str:= ["tokens","start","names","parser","found"]
theorem Ml:FnScope U5 ["tokens","start","names"] (defScope zu):=⟨rfl,rfl,rfl,by decide+kernel,rfl,by decide+kernel,by decide+kernel⟩
theorem Hg {pr:Option Int} {M:Mem} {R:KD} (k:R (.d (.bool (decide (pr=none)))) M):mQ (.d (prD pr)) (.d .none) M R:=by
 cases pr<;>exact k
def zB:dM:=fun xs M R=> ∃(ts:List Tk) (nm:List Str) (r0:Except Int (Ex×Nat)),xs= [.d (.list (ts.map g8)),.d (.int 0),.d (.list (nm.map PyData.str))]∧lM ts∧0<ts.length∧pP nm ts 250 .expr 0 0=some r0∧
 (∀c M',(r0= .error c∨ ∃e j,r0= .ok (e,j)∧(tk ts j).kind≠ "end" ∧c=(tk ts j).col)→MK [] M M'→R (.d (.tuple [.none,.int c])) M')∧ ∀e j M',r0= .ok (e,j)→(tk ts j).kind= "end" →MK [] M M'→R (.d (.tuple [e.d,.none])) M'
def Vx:bK:=(aQ (aZ 3 (u_ (aj (ao 0) (aj (ao 1) (aj (dC (.d (.int 0))) (aj (dC (.d .none)) (aj (ao 2) aH)))))))
 (aQ (aZ 4 (dCall (lJ 300) (aj (ao 3) aH)))
 (aQ (bZ (jG (dB (aA mQ (aA bf (ao 3) (dC (.d (.int 3)))) (dC (.d .none)))) (dB (aA (g2 jC) (aA bf (aA bf (ao 0) (aA bf (ao 3) (dC (.d (.int 1))))) (dC (.d (.int 0)))) (dC (.d (.str "end")))))) (gW (dCall nM (aj (ao 3) aH))) cV)
 (bO (dTup (aj (jY (dB (aA mQ (aA bf (ao 3) (dC (.d (.int 3)))) (dC (.d .none)))) (ao 4) (dC (.d .none))) (aj (aA bf (ao 3) (dC (.d (.int 3)))) aH)))))))
theorem agG: ∀xs M R,zB xs M R→xs.length=3:=by
 rintro xs M R ⟨ts,nm,r0,rfl,_⟩
 rfl
theorem af_: ∀xs M R,zB xs M R→Vx {nx:=fun _ M'=>R (.d .none) M',rt:=R} (dD U5 xs) M:=by
 rintro xs M R ⟨ts,nm,r0,rfl,w,h0,hp,hX,hR⟩
 refine sq (bL ?_)
 refine aJ (aG rfl (aJ (aG rfl (aJ (aN (aJ (aN (aJ (aG rfl (aV ?_))))))))))
 refine⟨Nat.le_of_ble_eq_true rfl,fun p np=> ?_⟩
 dsimp only
 have hA:jH (bD M p (.lst [.d (.list (ts.map g8)),.d (.int 0),.d (.int 0),.d .none,.d (.list (nm.map PyData.str))])) p ts nm 0 0 none:=cY
 have up: ∀{M'},MK [p] (bD M p (.lst [.d (.list (ts.map g8)),.d (.int 0),.d (.int 0),.d .none,.d (.list (nm.map PyData.str))])) M'→MK [] M M':=fun k=>MK.up np k
 refine aY (fun sl M1=> ∃x:PyData,sl= [some (.d (.list (ts.map g8))),some (.d (.int 0)),some (.d (.list (nm.map PyData.str))),some (.raw (.ref p)),some (.d x)]∧(∀e j,r0= .ok (e,j)→x=e.d)∧d9 M1 p ts nm 0 (jr r0)∧MK [] M M1) (fun N hN=> ?_) ?_
 ·refine bL (bQ (aJ (aG rfl (aV ?_))))
  exact⟨p,ts,nm,0,.ok 0,250,r0,rfl,w,⟨0,0,none,hA,h0,.inl ⟨rfl,rfl,rfl⟩⟩,by decide,by decide,by decide,hp,fun x M1 hx h1 k1=>hN _ _ ⟨x,rfl,hx,h1,up k1⟩⟩
 rintro sl M1 ⟨x,rfl,hx,hS,k1⟩
 have k1': ∀{M2},MK [p] M1 M2→MK [] M M2:=fun k b o e _=>k b o (k1 b o e (by simp)) (by
  intro z
  rw [List.mem_singleton.mp z,np]at e
  cases e)
 
 have fin: ∀(M2:Mem) (j:Nat) (d:Int) (pr:Option Int) (D:fD),D.rt=R→jH M2 p ts nm j d pr→(pr=none→R (.d (.tuple [x,.none])) M2)→(∀c,pr=some c→R (.d (.tuple [.none,.int c])) M2)→bO (dTup (aj (jY (dB (aA mQ (aA bf (ao 3) (dC (.d (.int 3)))) (dC (.d .none)))) (ao 4) (dC (.d .none))) (aj (aA bf (ao 3) (dC (.d (.int 3)))) aH))) D [some (.d (.list (ts.map g8))),some (.d (.int 0)),some (.d (.list (nm.map PyData.str))),some (.raw (.ref p)),some (.d x)] M2:=by
  intro M2 j d pr D hD hA2 h1 h2
  subst hD
  refine cJ (aJ (oG ?_))
  refine bU (aO (aO ?_))
  refine aG rfl (aN (eV hA2 (bB (x:=(.d (prD pr):DV)) rfl ?_)))
  refine aN (Hg ?_)
  cases pr with
  |none=>
   refine cG rfl ?_
   refine aG rfl ?_
   refine aJ (aO ?_)
   refine aG rfl (aN (eV hA2 (bB (x:=(.d .none:DV)) rfl ?_)))
   refine aV ?_
   exact dR (ds:= [x,.none]) (h1 rfl)
  |some c=>
   refine bW rfl ?_
   refine aN ?_
   refine aJ (aO ?_)
   refine aG rfl (aN (eV hA2 (bB (x:=(.d (.int c):DV)) rfl ?_)))
   refine aV ?_
   exact dR (ds:= [.none,.int c]) (h2 c rfl)
 obtain⟨j,d',pr,hA1,hj,hc⟩:=hS
 refine aY (fun sl M2=> ∃(pr':Option Int) (d:Int) (j3:Nat),sl= [some (.d (.list (ts.map g8))),some (.d (.int 0)),some (.d (.list (nm.map PyData.str))),some (.raw (.ref p)),some (.d x)]∧jH M2 p ts nm j3 d pr'∧MK [] M M2∧(pr'=none→ ∃e j,r0= .ok (e,j)∧(tk ts j).kind= "end")∧(∀c,pr'=some c→r0= .error c∨ ∃e j,r0= .ok (e,j)∧(tk ts j).kind≠ "end" ∧c=(tk ts j).col)) (fun N hN=> ?_) ?_
 ·refine dN (pA ?_)
  refine bU (aO (aO ?_))
  refine aG rfl (aN (eV hA1 (bB (x:=(.d (prD pr):DV)) rfl ?_)))
  refine aN (Hg ?_)
  rcases hc with⟨rfl,ho,rfl⟩|⟨c,rfl,ho⟩
  ·obtain⟨e,rfl⟩:=vo ho
   refine cG rfl ?_
   refine bU (aO (aO (aO ?_)))
   refine aG rfl (aO ?_)
   refine aG rfl (aN (eV hA1 (bB (x:=(.d (.int (j:Nat)):DV)) rfl ?_)))
   refine Vz hj ?_
   refine aN (bB (x:= .str (tk ts j).kind) rfl ?_)
   refine aN (ne_str ?_)
   by_cases he:(tk ts j).kind= "end"
   ·rw [decide_eq_true he]
    exact bW rfl (hN _ _ ⟨none,_,j,rfl,hA1,k1,fun _=>⟨e,j,rfl,he⟩,fun c z=>(by cases z)⟩)
   ·rw [decide_eq_false he]
    refine cG rfl (BK (bQ (aJ (aG rfl (aV ?_)))))
    refine⟨p,ts,nm,0,.ok j,rfl,⟨j,0,none,hA1,hj,.inl ⟨rfl,rfl,rfl⟩⟩,fun M2 h2 k2=> ?_⟩
    obtain⟨j2,d2,pr2,hA2,hj2,hc2⟩:=h2
    rcases hc2 with⟨_,h,_⟩|⟨c,rfl,h⟩
    ·cases h
    ·have hcc:(tk ts j).col=c:=by cases h;rfl
     refine hN _ _ ⟨some c,d2,j2,rfl,hA2,k1' k2,fun z=>(by cases z),fun c' z=> .inr ⟨e,j,rfl,he,?_⟩⟩
     cases z
     exact hcc.symm
  ·refine bW rfl (bW rfl (hN _ _ ⟨some c,_,j,rfl,hA1,k1,fun z=>(by cases z),fun c' z=> .inl ?_⟩))
   cases z
   match r0,ho with
   | .error c,ho=>cases ho;rfl
 rintro sl M2 ⟨pr',d,j3,rfl,hA2,k2,g1,g2'⟩
 refine fin M2 j3 d pr' _ rfl hA2 (fun z=> ?_) (fun c z=>hX c M2 (g2' c z) k2)
 obtain⟨e,j4,he,hk⟩:=g1 z
 rw [hx e j4 he]
 exact hR e j4 M2 he hk k2
theorem adD {P:Program} {w:World} {K:PySem.W.Frag} {mg:Str→Option Value} {base:Heap} {dV:Value} {f:Addr} {fd:FuncData} (F:dw K "_law_parsed" "_law_parsed" zu dV f fd) (rP:Def P w K mg base "_law_whole" 303 (lJ 300)) (pW:Def P w K mg base "_law_stop" 1 nM):bM P w K mg base CX0 304 f fd ["tokens","start","names"] (dO K zB):=
 F.data Ml agG Vx (fun cdv A outer s H E hg hr=>
  (aR (bx (i:=3) Ml.nd rfl (by first|exact Or.inl rfl|exact Or.inr rfl) (wj (aq (au 0) (aq (au 1) (aq aP (aq fY (aq (au 2) aM)))))))
   (aR (bx (i:=4) Ml.nd rfl (by first|exact Or.inl rfl|exact Or.inr rfl) (rP.de hg (hr.mono (by decide)) (by rfl) (aq (au 3) aM)))
   (aR (cP (jU (oX (bJ tM (cH (au 3) aP) fY (nomark _)) (qu (bJ (mO hr) (cH (cH (au 0) (cH (au 3) aP)) aP) aK (nomark _))))) (aW (ju (pW.de hg (hr.mono (by decide)) (by rfl) (aq (au 3) aM)))) cW)
   (aW (b_ (dG (aq (n_ (bJ tM (cH (au 3) aP) fY (nomark _)) (au 4) fY) (aq (cH (au 3) aP) aM))))))))) af_
abbrev Ac:Stmt:=topS 56
abbrev Zt:List Str:= ["text","names","tokens","column","found"]
theorem Af:FnScope Zt ["text","names"] (defScope Ac):=⟨rfl,rfl,rfl,by decide+kernel,rfl,by decide+kernel,by decide+kernel⟩
def Jy (nm:List Str) (s:List Nat):Option (Except Int Ex):=match fH s s.length 0 []with
 |none=>none
 |some (.error c)=>some (.error c)
 |some (.ok ts)=>match pP nm ts 250 .expr 0 0 with
  |none=>none
  |some (.error c)=>some (.error c)
  |some (.ok (e,j))=>if (tk ts j).kind= "end" then some (.ok e)else some (.error (tk ts j).col)
def yF:dM:=fun xs M R=> ∃(z:Str) (nm:List Str) (r:Except Int Ex),xs= [.d (.str z),.d (.list (nm.map PyData.str))]∧(sg z).length≤100000∧Jy nm (sg z)=some r∧(∀c M',r= .error c→MK [] M M'→R (.d (.tuple [.none,.int 1,.int c])) M')∧ ∀e M',r= .ok e→MK [] M M'→R (.d (.tuple [e.d,.none,.none])) M'
def Zv:bK:=(aQ (zU (dCall zG (aj (ao 0) aH)) (w6 2 (nA (iT 2) (nA (iT 3) wH))))
 (aQ (aZ 4 (dC (.d .none)))
 (aQ (bZ (dB (aA mQ (ao 3) (dC (.d .none)))) (zU (dCall zB (aj (ao 2) (aj (dC (.d (.int 0))) (aj (ao 1) aH)))) (w6 2 (nA (iT 4) (nA (iT 3) wH)))) cV)
 (bO (dTup (aj (ao 4) (aj (jY (dB (aA mQ (ao 3) (dC (.d .none)))) (dC (.d .none)) (dC (.d (.int 1)))) (aj (ao 3) aH))))))))
theorem ahV: ∀xs M R,yF xs M R→xs.length=2:=by
 rintro xs M R ⟨z,nm,r,rfl,_⟩
 rfl
theorem acA: ∀xs M R,yF xs M R→Zv {nx:=fun _ M'=>R (.d .none) M',rt:=R} (dD Zt xs) M:=by
 rintro xs M R ⟨z,nm,r,rfl,hz,hp,hX,hR⟩
 obtain⟨r1,hr1,hp1⟩: ∃r1,fH (sg z) (sg z).length 0 []=some r1∧(match r1 with
  | .error c=>some (.error c)
  | .ok ts=>match pP nm ts 250 .expr 0 0 with
   |none=>none
   |some (.error c)=>some (.error c)
   |some (.ok (e,j))=>if (tk ts j).kind= "end" then some (.ok e)else some (.error (tk ts j).col))=some r:=by
  unfold Jy at hp
  match h:fH (sg z) (sg z).length 0 [],hp with
  |some (.error c),hp=>exact⟨_,rfl,hp⟩
  |some (.ok ts),hp=>exact⟨_,rfl,hp⟩
 refine aY (fun sl M1=> ∃(x:PyData) (c:Option Int),sl= [some (.d (.str z)),some (.d (.list (nm.map PyData.str))),some (.d x),some (.d (prD c)),none]∧MK [] M M1∧((∃c',r1= .error c'∧c=some c')∨ ∃ts,r1= .ok ts∧c=none∧x= .list (ts.map g8))) (fun N hN=> ?_) ?_
 ·refine Hf (bQ (aJ (aG rfl (aV ?_))))
  refine⟨z,r1,rfl,hz,hr1,fun c x M' hc k=> ?_,fun ts M' ht k=> ?_⟩
  ·refine⟨rfl,nQ (jL (nQ (jL (zJ ?_))))⟩
   exact hN _ _ ⟨x,some c,rfl,k,.inl ⟨c,hc,rfl⟩⟩
  ·refine⟨rfl,nQ (jL (nQ (jL (zJ ?_))))⟩
   exact hN _ _ ⟨_,none,rfl,k,.inr ⟨ts,ht,rfl,rfl⟩⟩
 rintro sl M1 ⟨x,c,rfl,k1,hcase⟩
 refine sq (bL (aN ?_))
 dsimp only
 refine aY (fun sl M2=> ∃(f:PyData) (c:Option Int),sl= [some (.d (.str z)),some (.d (.list (nm.map PyData.str))),some (.d x),some (.d (prD c)),some (.d f)]∧MK [] M M2∧((∃c',r= .error c'∧c=some c'∧f= .none)∨ ∃e,r= .ok e∧c=none∧f=e.d)) (fun N hN=> ?_) ?_
 ·refine dN (bU (aO (aG rfl (aN (Hg ?_)))))
  rcases hcase with⟨c',rfl,rfl⟩|⟨ts,rfl,rfl,rfl⟩
  ·refine bW rfl (hN _ _ ⟨.none,some c',rfl,k1,.inl ⟨c',(Option.some.inj hp1).symm,rfl,rfl⟩⟩)
  ·refine cG rfl ?_
   have ok:nU ts:=B_ hz _ _ [] ts (fun t ht=>(by cases ht)) (Nat.zero_le _) hr1
   have tw:lM ts:=⟨ok,Ye _ _ [] ts (fun t ht=>(by cases ht)) hr1⟩
   have h0:0<ts.length:=Cp _ _ _ _ hr1
   have hp2: ∃r2,pP nm ts 250 .expr 0 0=some r2∧(match r2 with
     | .error c=>some (.error c)
     | .ok (e,j)=>if (tk ts j).kind= "end" then some (.ok e)else some (.error (tk ts j).col))=some r:=by
    dsimp only at hp1
    match h:pP nm ts 250 .expr 0 0,hp1 with
    |some (.error c),hp=>exact⟨_,rfl,hp⟩
    |some (.ok (e,j)),hp=>exact⟨_,rfl,hp⟩
   obtain⟨r2,hr2,hp2⟩:=hp2
   refine Hf (bQ (aJ (aG rfl (aJ (aN (aJ (aG rfl (aV ?_))))))))
   refine⟨ts,nm,r2,rfl,tw,h0,hr2,fun c M' hc k=> ?_,fun e j M' he hk k=> ?_⟩
   ·refine⟨rfl,nQ (jL (nQ (jL (zJ ?_))))⟩
    refine hN _ _ ⟨.none,some c,rfl,k1.trans k,.inl ⟨c,?_,rfl,rfl⟩⟩
    rcases hc with rfl|⟨e,j,rfl,hk,rfl⟩
    ·exact(Option.some.inj hp2).symm
    ·dsimp only at hp2
     rw [if_neg hk]at hp2
     exact(Option.some.inj hp2).symm
   ·refine⟨rfl,nQ (jL (nQ (jL (zJ ?_))))⟩
    refine hN _ _ ⟨e.d,none,rfl,k1.trans k,.inr ⟨e,?_,rfl,rfl⟩⟩
    subst he
    dsimp only at hp2
    rw [if_pos hk]at hp2
    exact(Option.some.inj hp2).symm
 rintro sl M2 ⟨f,c,rfl,k2,hc⟩
 refine cJ (aJ (aG rfl (aJ (oG (bU (aO (aG rfl (aN (Hg ?_)))))))))
 rcases hc with⟨c',hr,rfl,rfl⟩|⟨e,hr,rfl,rfl⟩
 ·refine bW rfl ?_
  refine aN ?_
  refine aJ (aG rfl (aV ?_))
  exact dR (ds:= [.none,.int 1,.int c']) (hX c' M2 hr k2)
 ·refine cG rfl ?_
  refine aN ?_
  refine aJ (aG rfl (aV ?_))
  exact dR (ds:= [e.d,.none,.none]) (hR e M2 hr k2)
theorem acY {P:Program} {w:World} {K:PySem.W.Frag} {mg:Str→Option Value} {base:Heap} {dV:Value} {f:Addr} {fd:FuncData} (F:dw K "_law_expected" "_law_expected" Ac dV f fd) (MF:Def P w K mg base "_law_lexed" 1 zG) (MJ:Def P w K mg base "_law_parsed" 304 zB):bM P w K mg base CX0 305 f fd ["text","names"] (dO K yF):=
 F.data Af ahV Zv (fun cdv A outer s H E hg hr=>
  (aR (Fv (MF.de hg (hr.mono (by decide)) (by rfl) (aq (au 0) aM)) (Ds rfl (pK (jf (i:=2) Af.nd rfl (by first|exact Or.inl rfl|exact Or.inr rfl)) (pK (jf (i:=3) Af.nd rfl (by first|exact Or.inl rfl|exact Or.inr rfl)) Bl))))
   (aR (bx (i:=4) Af.nd rfl (by first|exact Or.inl rfl|exact Or.inr rfl) fY)
   (aR (cP (bJ tM (au 3) fY (nomark _)) (aW (Fv (MJ.de hg (hr.mono (by decide)) (by rfl) (aq (au 2) (aq aP (aq (au 1) aM)))) (Ds rfl (pK (jf (i:=4) Af.nd rfl (by first|exact Or.inl rfl|exact Or.inr rfl)) (pK (jf (i:=3) Af.nd rfl (by first|exact Or.inl rfl|exact Or.inr rfl)) Bl))))) cW)
   (aW (b_ (dG (aq (au 4) (aq (n_ (bJ tM (au 3) fY (nomark _)) fY aP) (aq (au 3) aM)))))))))) acA
abbrev yr:Stmt:=topS 30
abbrev Uv:List Str:= ["line","start","signs","end"]
theorem Lr:FnScope Uv ["line","start","signs"] (defScope yr):=⟨rfl,rfl,rfl,by decide+kernel,rfl,by decide+kernel,by decide+kernel⟩
def wL:dM:=fun xs M R=> ∃(z S:Str) (i:Nat) (p:Nat→Bool),xs= [.d (.str z),.d (.int (i:Nat)),.d (.str S)]∧i≤(sg z).length∧(sg z).length≤100000∧(∀c,decide (c∈sg S)=p c)∧R (.d (.int ((i+rl p ((sg z).drop i):Nat):Int))) M
def WQ:bK:=(aQ (aZ 3 (ao 1))
 (aQ (pC (jG (dB (aA (g2 j8) (ao 3) (dCall iw (aj (ao 0) aH)))) (dB (aA (g2 (inD false)) (aA bf (ao 0) (ao 3)) (ao 2)))) (sH 3 (dC (.d (.int 1))) (fun i j=>i+j)))
 (bO (ao 3))))
theorem ahS: ∀xs M R,wL xs M R→xs.length=3:=by
 rintro xs M R ⟨z,S,i,p,rfl,_⟩
 rfl
theorem afD: ∀xs M R,wL xs M R→WQ {nx:=fun _ M'=>R (.d .none) M',rt:=R} (dD Uv xs) M:=by
 rintro xs M R ⟨z,S,i,p,rfl,hi,hz,hp,hR⟩
 refine sq (aG rfl ?_)
 dsimp only
 refine aY (fun sl M1=>sl= [some (.d (.str z)),some (.d (.int (i:Nat))),some (.d (.str S)),some (.d (.int ((i+rl p ((sg z).drop i):Nat):Int)))]∧M1=M) (fun N hN=> ?_) ?_
 ·refine⟨fun w sl M1=> ∃j:Nat,sl= [some (.d (.str z)),some (.d (.int (i:Nat))),some (.d (.str S)),some (.d (.int (j:Nat)))]∧j≤(sg z).length∧j+rl p ((sg z).drop j)=i+rl p ((sg z).drop i)∧w=(sg z).length-j∧M1=M,⟨_,i,rfl,hi,rfl,rfl,rfl⟩,?_⟩
  rintro w sl M1 ⟨j,rfl,hj,he,hw,rfl⟩
  refine pA (bU (aO (aG rfl ?_)))
  refine bQ (aJ (aG rfl (aV ⟨small (by rw [str_len];omega),?_⟩)))
  show if decide (((j:Nat):Int)<((z.length:Nat):Int))=true then _ else _
  refine gq (fun hlt=> ?_) (fun hge=> ?_)
  ·rw [str_len]at hlt
   have hjl:j<(sg z).length:=by omega
   refine bU (aO (aO (aG rfl (aG rfl (qC (by rw [str_len];omega) hjl (aG rfl (oK ?_)))))))
   rw [hp]
   have ed:=vA hjl
   cases hc:p ((sg z).getD j 0)with
   |true=>
    refine cG rfl ?_
    refine YK rfl ?_
    refine⟨w-1,by omega,j+1,rfl,by omega,?_,by omega,rfl⟩
    rw [ed,pY hc]at he
    omega
   |false=>
    refine bW rfl ?_
    rw [ed,Fb hc]at he
    refine hN _ _ ⟨?_,rfl⟩
    rw [←he]
    rfl
  ·rw [str_len]at hge
   have ej:j=(sg z).length:=by omega
   refine bW rfl ?_
   refine hN _ _ ⟨?_,rfl⟩
   rw [ej,List.drop_length]at he
   rw [←he,ej]
   rfl
 rintro sl M1 ⟨rfl,rfl⟩
 exact cJ (aG rfl hR)
theorem ah0 {P:Program} {w:World} {K:PySem.W.Frag} {mg:Str→Option Value} {base:Heap} {dV:Value} {f:Addr} {fd:FuncData} (F:dw K "end_of_run" "end_of_run" yr dV f fd) (fJ:mg "len" =none):bM P w K mg base CX0 1 f fd ["line","start","signs"] (dO K wL):=
 F.data Lr ahS WQ (fun cdv A outer s H E hg hr=>
  (aR (bx (i:=3) Lr.nd rfl (by first|exact Or.inl rfl|exact Or.inr rfl) (au 1))
   (aR (sW PassesOwn.never (jU (oX (bJ (qZ hr) (au 3) (gU jJ (by rfl) fJ (by decide+kernel) (aq (au 0) aM)) (nomark _)) (qu (bJ (jP hr) (cH (au 0) (au 3)) (au 2) rfl)))) (aW (Lg (i:=3) Lr.nd rfl (by first|exact Or.inl rfl|exact Or.inr rfl) aP ip_add)))
   (aW (b_ (au 3)))))) afD
abbrev yL:Stmt:=j_ 3 0
abbrev Vb:List Str:= ["self","line","column"]
theorem adx:FnScope Vb ["self","line","column"] (defScope yL):=⟨rfl,rfl,rfl,by decide+kernel,rfl,by decide+kernel,by decide+kernel⟩
def m7:dM:=fun xs M R=> ∃(a:Addr) (i j:Int),xs= [.raw (.ref a),.d (.int i),.d (.int j)]∧0≤i∧i<10^20∧0≤j∧j<10^20∧M a=some (.exo "SyntaxProblem" none)∧ ∀d,M d=none→d≠a→R (.d .none) (bD (bD M d (.exd [("column",.d (.int j)),("line",.d (.int i))])) a (.exo "SyntaxProblem" (some d)))
def Us:bK:=(aQ (gW (WY "SyntaxProblem" (aj (ao 0) (aj (T7 [(dC (.d (.str "syntax problem at line "))),(Ci (ao 1)),(dC (.d (.str ", column "))),(Ci (ao 2))]) aH))))
 (aQ (Jp "SyntaxProblem" "line" (ao 1) (ao 0))
 (Jp "SyntaxProblem" "column" (ao 2) (ao 0))))
theorem ahx: ∀xs M R,m7 xs M R→xs.length=3:=by
 rintro xs M R ⟨a,i,j,rfl,_⟩
 rfl
theorem ahW: ∀xs M R,m7 xs M R→Us {nx:=fun _ M'=>R (.d .none) M',rt:=R} (dD Vb xs) M:=by
 rintro xs M R ⟨a,i,j,rfl,h0,h1,g0,g1,hM,h⟩
 have hl:=U8 h0 h1
 have gl:=U8 g0 g1
 have e1:("syntax problem at line " :Str).length=23:=by decide+kernel
 have e2:(", column " :Str).length=9:=by decide+kernel
 refine sq ⟨_,rfl,small (by rw [Fo];omega),Ko h0 (by omega),_,rfl,small (by rw [Fo,xT];omega),_,rfl,small (by rw [Fo,xT,xT];omega),Ko g0 (by omega),_,rfl,small (by rw [Fo,xT,xT,xT];omega),Nat.le_of_ble_eq_true rfl,Kh hM ⟨rfl,?_⟩⟩
 refine sq ?_
 refine Kh hM fun d n1 n2=> ?_
 refine Kh cY ⟨n2,ab6 (by rw [fO n2];exact cY) ⟨Nat.le_of_ble_eq_true rfl,?_⟩⟩
 have e:bD (bD (bD M d (.exd [("line",.d (.int i))])) a (.exo "SyntaxProblem" (some d))) d (.exd [("column",.d (.int j)),("line",.d (.int i))])=bD (bD M d (.exd [("column",.d (.int j)),("line",.d (.int i))])) a (.exo "SyntaxProblem" (some d)):=by
  funext b
  unfold bD
  by_cases hb:b=d
  ·rw [if_pos hb,if_neg (fun z=>n2 (hb.symm.trans z)),if_pos hb]
  ·rw [if_neg hb]
   by_cases ha:b=a
   ·rw [if_pos ha,if_pos ha]
   ·rw [if_neg ha,if_neg hb,if_neg ha,if_neg hb]
 show R _ (bD _ _ _)
 rw [e]
 exact h d n1 n2
theorem ad5 {M:Mem} {a d:Addr} {o1 o2 o3:MO} (na:M a=none) (nd:M d=none) (hd:d≠a):cZ (cZ (bD (bD (bD M a o1) d o2) a o3) a) d=M:=by
 funext b
 by_cases e1:b=d
 ·subst e1
  rw [CN,nd]
 ·rw [m9 e1]
  by_cases e2:b=a
  ·subst e2
   rw [CN,na]
  ·rw [m9 e2,fO e2,fO e1,fO e2]
theorem Cj {M:Mem} {sl:Slots} {tas:eY} {i j:Int} {G:List (Str×PyData)→Mem→Prop} (h0:0≤i) (h1:i<10^20) (g0:0≤j) (g1:j<10^20) (ht: ∀RA:KA,RA [.d (.int i),.d (.int j)] M→tas sl M RA) (h:G [("column",.int j),("line",.int i)] M):Gy "SyntaxProblem" m7 tas sl M G:=by
 refine ht _ ⟨Nat.le_of_ble_eq_true rfl,fun a na=>⟨a,i,j,rfl,h0,h1,g0,g1,cY,fun d n1 n2=> ?_⟩⟩
 have nd:M d=none:=by rw [fO n2]at n1;exact n1
 refine⟨rfl,d,[("column",.int j),("line",.int i)],cY,(fO n2).trans cY,nd,n2,by simp,(show([("column" :Str),"line"]).Nodup by decide+kernel),?_⟩
 rw [ad5 na nd n2]
 exact h
theorem afg {P:Program} {w:World} {K:PySem.W.Frag} {mg:Str→Option Value} {base:Heap} {dV:Value} {f:Addr} {fd:FuncData} (F:dw K "__init__" "SyntaxProblem.__init__" yL dV f fd) (MN:HX K mg "LimitRunError") (MP:Lh K "SyntaxProblem") (M_:Cg K "SyntaxProblem" "line") (Nb:Cg K "SyntaxProblem" "column"):bM P w K mg base CX0 1 f fd ["self","line","column"] (dO K m7):=
 F.data adx ahx Us (fun cdv A outer s H E hg hr=>
  (aR (ju (adR MN MP (by rfl) (aq (au 0) (aq (aip (ts:= [(dC (.d (.str "syntax problem at line "))),(Ci (ao 1)),(dC (.d (.str ", column "))),(Ci (ao 2))]) (HW aK (HW (XF (au 1)) (HW aK (HW (XF (au 2)) aho))))) aM))))
   (aR (Yx M_ (au 1) (au 0))
   (aW (Yx Nb (au 2) (au 0)))))) ahW
abbrev yM:Stmt:=j_ 29 0
abbrev W_:List Str:= ["self","kind","text","column"]
theorem agV:FnScope W_ ["self","kind","text","column"] (defScope yM):=⟨rfl,rfl,rfl,by decide+kernel,rfl,by decide+kernel,by decide+kernel⟩
def ql:dM:=fun xs M R=> ∃(b:Addr) (t:Tk),xs= [.raw (.ref b),.d (.str t.kind),.d (.str t.text),.d (.int t.col)]∧M b=some (.ins "Token" [])∧ ∀M',iQ M' b t→MK [b] M M'→R (.d .none) M'
def Ww:bK:=(aQ (tQ "Token" "kind" (ao 1) (ao 0))
 (aQ (tQ "Token" "text" (ao 2) (ao 0))
 (tQ "Token" "column" (ao 3) (ao 0))))
theorem agH: ∀xs M R,ql xs M R→xs.length=4:=by
 rintro xs M R ⟨b,t,rfl,_⟩
 rfl
theorem adL: ∀xs M R,ql xs M R→Ww {nx:=fun _ M'=>R (.d .none) M',rt:=R} (dD W_ xs) M:=by
 rintro xs M R ⟨b,t,rfl,hb,hR⟩
 refine sq (gH hb ⟨Nat.le_of_ble_eq_true rfl,?_⟩)
 refine sq (gH cY ⟨Nat.le_of_ble_eq_true rfl,?_⟩)
 refine gH cY ⟨Nat.le_of_ble_eq_true rfl,?_⟩
 rw [qH,qH]
 exact hR _ cY lO
theorem HY {tas:eY} {sl:Slots} {M:Mem} {R:KD} (t:Tk) (hta: ∀RA:KA,RA [.d (.str t.kind),.d (.str t.text),.d (.int t.col)] M→tas sl M RA) (h: ∀b M',M b=none→iQ M' b t→MK [] M M'→R (.raw (.ref b)) M'):wG "Token" ql tas sl M R:=by
 refine hta _ fun x nx=>⟨x,t,rfl,cY,fun M' ht k=>⟨rfl,h x M' nx ht fun b o e _=> ?_⟩⟩
 have hb:b≠x:=fun z=>by rw [z,nx]at e;cases e
 exact k b o ((fO hb).trans e) (by simpa using hb)
theorem aeh {P:Program} {w:World} {K:PySem.W.Frag} {mg:Str→Option Value} {base:Heap} {dV:Value} {f:Addr} {fd:FuncData} (F:dw K "__init__" "Token.__init__" yM dV f fd) (oU:fB K "Token" "kind") (lE:fB K "Token" "text") (uF:fB K "Token" "column"):bM P w K mg base CX0 1 f fd ["self","kind","text","column"] (dO K ql):=
 F.data agV agH Ww (fun cdv A outer s H E hg hr=>
  (aR (vG oU (au 1) (au 0))
   (aR (vG lE (au 2) (au 0))
   (aW (vG uF (au 3) (au 0)))))) adL
abbrev z8:Stmt:=topS 31
abbrev UG:List Str:= ["line","number","start","sign","text","symbol"]
theorem CG:FnScope UG ["line","number","start"] (defScope z8):=⟨rfl,rfl,rfl,by decide+kernel,rfl,by decide+kernel,by decide+kernel⟩
def zN:fV:=fun xs M R RX=> ∃(z:Str) (num:Int) (i:Nat),xs= [.d (.str z),.d (.int num),.d (.int (i:Nat))]∧i<(sg z).length∧(sg z).length≤100000∧0≤num∧num<10^20∧
 (∀c,iV (sg z) i= .error c→RX "SyntaxProblem" [("column",.int c),("line",.int num)] M)∧ ∀t b M',iV (sg z) i= .ok t→M b=none→iQ M' b t→MK [] M M'→R (.raw (.ref b)) M'
def Yg (Ex:XD):bK:=(aQ (aZ 3 (aA bf (bV 0) (ao 2)))
 (aQ (bZ (dB (aA (g2 (inD false)) (ao 3) (dC GD))) (aQ (aZ 4 (fM (bV 0) (eG (ao 2)) (eG (dCall wL (aj (bV 0) (aj (ao 2) (aj (aA (g2 aX) (dC GD) (dC CT)) aH)))))))
 (aQ (bZ (jG (dB (aA (g2 (inD true)) (ao 4) (dC Hl))) (dB (aA (g2 (jX fun i j=>decide (j<i))) (dCall iw (aj (ao 4) aH)) (dC Jt)))) (vP Ex "SyntaxProblem" m7 (aj (ao 1) (aj (aA (g2 aX) (ao 2) (dC (.d (.int 1)))) aH))) cV)
 (bO (wG "Token" ql (aj (jY (dB (aA (g2 (inD false)) (ao 4) (dC Hl))) (dC (.d (.str "word"))) (dC (.d (.str "name")))) (aj (ao 4) (aj (aA (g2 aX) (ao 2) (dC (.d (.int 1)))) aH))))))) cV)
 (aQ (bZ (dB (aA (g2 (inD false)) (ao 3) (dC CT))) (aQ (aZ 4 (fM (bV 0) (eG (ao 2)) (eG (dCall wL (aj (bV 0) (aj (ao 2) (aj (dC CT) aH)))))))
 (aQ (bZ (mD (dB (aA (g2 (jX fun i j=>decide (j<i))) (dCall iw (aj (ao 4) aH)) (dC K9))) (jG (dB (aA (g2 (jX fun i j=>decide (j<i))) (dCall iw (aj (ao 4) aH)) (dC (.d (.int 1))))) (dB (aA (g2 eU) (ao 3) (dC (.d (.str "0"))))))) (vP Ex "SyntaxProblem" m7 (aj (ao 1) (aj (aA (g2 aX) (ao 2) (dC (.d (.int 1)))) aH))) cV)
 (bO (wG "Token" ql (aj (dC (.d (.str "number"))) (aj (ao 4) (aj (aA (g2 aX) (ao 2) (dC (.d (.int 1)))) aH))))))) cV)
 (aQ (o9 (o_ (dC Ln)) (iT 5) (bZ (dB (aA (g2 eU) (fM (bV 0) (eG (ao 2)) (eG (aA (g2 aX) (ao 2) (dCall iw (aj (ao 5) aH))))) (ao 5))) (bO (wG "Token" ql (aj (dC (.d (.str "symbol"))) (aj (ao 5) (aj (aA (g2 aX) (ao 2) (dC (.d (.int 1)))) aH))))) cV))
 (vP Ex "SyntaxProblem" m7 (aj (ao 1) (aj (aA (g2 aX) (ao 2) (dC (.d (.int 1)))) aH)))))))
theorem afN: ∀xs M R RX,zN xs M R RX→xs.length=3:=by
 rintro xs M R RX ⟨z,num,i,rfl,_⟩
 rfl
theorem afw: ∀xs M R RX,zN xs M R RX→ ∀B,Yg (fun n fs sl M'=>iY 0 B sl∧RX n fs M') {nx:=fun _ M'=>R (.d .none) M',rt:=R} (jx 0 B (dD UG xs)) M:=by
 rintro xs M R RX ⟨z,num,i,rfl,hi,hz,n0,n1,hX,hR⟩ B
 have hzl:=str_len z
 refine aY (fun sl M1=>sl= [some (.wb (.d (.str z)) B),some (.d (.int num)),some (.d (.int (i:Nat))),some (.d (.str ⟨#[(sg z).getD i 0]⟩)),none,none]∧M1=M) (fun N hN=> ?_) ?_
 ·exact bL (aO (fL (B:=B) rfl (aG rfl (qC (by omega) hi (hN _ _ ⟨rfl,rfl⟩)))))
 rintro sl M1 ⟨rfl,rfl⟩
 
 refine aY (fun sl M2=>sl= [some (.wb (.d (.str z)) B),some (.d (.int num)),some (.d (.int (i:Nat))),some (.d (.str ⟨#[(sg z).getD i 0]⟩)),none,none]∧eX ((sg z).getD i 0)=false∧M2=M1) (fun N hN=> ?_) ?_
 ·refine dN (bU (aO (aG rfl (aN (oK ?_)))))
  rw [xP]
  cases hs:eX ((sg z).getD i 0)with
  |false=>exact bW rfl (hN _ _ ⟨rfl,hs,rfl⟩)
  |true=>
   refine cG rfl ?_
   have hw: ∃w,w=((sg z).drop i).take (rl gK ((sg z).drop i)):=⟨_,rfl⟩
   obtain⟨w,ew⟩:=hw
   have hT:iV (sg z) i=if tx w∉eO∧8<w.length then .error ((i:Int)+1)else .ok ⟨if tx w∈eO then "word" else "name",tx w,(i:Int)+1⟩:=by
    unfold iV
    dsimp only
    rw [hs,if_pos rfl,←ew]
   refine aY (fun sl M3=>sl= [some (.wb (.d (.str z)) B),some (.d (.int num)),some (.d (.int (i:Nat))),some (.d (.str ⟨#[(sg z).getD i 0]⟩)),some (.d (.str (tx w))),none]∧M3=M1) (fun N3 hN3=> ?_) ?_
   ·refine bL ?_
    unfold fM eG
    refine fL (B:=B) rfl (aG rfl ?_)
    refine bQ (aJ (fL (B:=B) rfl (aJ (aG rfl (aJ (aO (aN (aN ?_))))))))
    refine⟨Nat.le_of_ble_eq_true rfl,aV ?_⟩
    refine⟨z,_,i,gK,rfl,by omega,hz,Mj,?_⟩
    refine⟨small (by omega),?_⟩
    have e:=Cr z i (i+rl gK ((sg z).drop i))
    rw [Nat.add_sub_cancel_left,←ew]at e
    rw [e]
    exact hN3 _ _ ⟨rfl,rfl⟩
   rintro sl M3 ⟨rfl,rfl⟩
   have wl:(tx w).length=w.length:=by rw [str_len]
   have wle:w.length≤(sg z).length:=by
    rw [ew,List.length_take,List.length_drop]
    omega
   refine aY (fun sl M4=>sl= [some (.wb (.d (.str z)) B),some (.d (.int num)),some (.d (.int (i:Nat))),some (.d (.str ⟨#[(sg z).getD i 0]⟩)),some (.d (.str (tx w))),none]∧ ¬(tx w∉eO∧8<w.length)∧M4=M3) (fun N4 hN4=> ?_) ?_
   ·refine dN (pA (bU (aO (aG rfl (aN (Lj (l:=eO) ?_))))))
    by_cases hk:tx w∈eO
    ·rw [decide_eq_true hk]
     exact bW rfl (bW rfl (hN4 _ _ ⟨rfl,fun q=>q.1 hk,rfl⟩))
    ·rw [decide_eq_false hk]
     refine cG rfl ?_
     refine bU (aO (bQ (aJ (aG rfl (aV ⟨small (by omega),aN ?_⟩)))))
     show if decide ((8:Int)<(((tx w).length:Nat):Int))=true then _ else _
     refine gq (fun h8=> ?_) (fun h8=>hN4 _ _ ⟨rfl,fun q=>h8 (by have:=q.2;omega),rfl⟩)
     refine Cj n0 n1 (j:=(i:Int)+1) (by omega) (by omega) (fun RA h=>aJ (aG rfl (aJ (aO (aG rfl (aN (vm (aV h)))))))) ⟨⟨_,rfl⟩,hX _ ?_⟩
     rw [hT,if_pos ⟨hk,by omega⟩]
   rintro sl M4 ⟨rfl,hno,rfl⟩
   rw [if_neg hno]at hT
   refine cJ (HY ⟨if tx w∈eO then "word" else "name",tx w,(i:Int)+1⟩ (fun RA h=> ?_) fun b M' nb ht k=>hR _ b M' hT nb ht k)
   refine aJ (oG (bU (aO (aG rfl (aN (HJ (l:=eO) ?_))))))
   by_cases hk:tx w∈eO
   ·rw [decide_eq_true hk]
    rw [if_pos hk]at h
    exact cG rfl (aN (aJ (aG rfl (aJ (aO (aG rfl (aN (vm (aV h)))))))))
   ·rw [decide_eq_false hk]
    rw [if_neg hk]at h
    exact bW rfl (aN (aJ (aG rfl (aJ (aO (aG rfl (aN (vm (aV h)))))))))
 rintro sl M2 ⟨rfl,hs,rfl⟩
 
 refine aY (fun sl M3=>sl= [some (.wb (.d (.str z)) B),some (.d (.int num)),some (.d (.int (i:Nat))),some (.d (.str ⟨#[(sg z).getD i 0]⟩)),none,none]∧cO ((sg z).getD i 0)=false∧M3=M2) (fun N hN=> ?_) ?_
 ·refine dN (bU (aO (aG rfl (aN (oK ?_)))))
  rw [z9]
  cases hd:cO ((sg z).getD i 0)with
  |false=>exact bW rfl (hN _ _ ⟨rfl,hd,rfl⟩)
  |true=>
   refine cG rfl ?_
   obtain⟨w,ew⟩: ∃w,w=((sg z).drop i).take (rl cO ((sg z).drop i)):=⟨_,rfl⟩
   have hT:iV (sg z) i=if 6<w.length∨1<w.length∧(sg z).getD i 0=48 then .error ((i:Int)+1)else .ok ⟨"number",tx w,(i:Int)+1⟩:=by
    unfold iV
    dsimp only
    rw [hs,if_neg (by decide),hd,if_pos rfl,←ew]
   refine aY (fun sl M3=>sl= [some (.wb (.d (.str z)) B),some (.d (.int num)),some (.d (.int (i:Nat))),some (.d (.str ⟨#[(sg z).getD i 0]⟩)),some (.d (.str (tx w))),none]∧M3=M2) (fun N3 hN3=> ?_) ?_
   ·refine bL ?_
    unfold fM eG
    refine fL (B:=B) rfl (aG rfl ?_)
    refine bQ (aJ (fL (B:=B) rfl (aJ (aG rfl (aJ (aN (aV ?_)))))))
    refine⟨z,_,i,cO,rfl,by omega,hz,z9,?_⟩
    refine⟨small (by omega),?_⟩
    have e:=Cr z i (i+rl cO ((sg z).drop i))
    rw [Nat.add_sub_cancel_left,←ew]at e
    rw [e]
    exact hN3 _ _ ⟨rfl,rfl⟩
   rintro sl M3 ⟨rfl,rfl⟩
   have wl:(tx w).length=w.length:=by rw [str_len]
   have wle:w.length≤(sg z).length:=by
    rw [ew,List.length_take,List.length_drop]
    omega
   refine aY (fun sl M4=>sl= [some (.wb (.d (.str z)) B),some (.d (.int num)),some (.d (.int (i:Nat))),some (.d (.str ⟨#[(sg z).getD i 0]⟩)),some (.d (.str (tx w))),none]∧ ¬(6<w.length∨1<w.length∧(sg z).getD i 0=48)∧M4=M3) (fun N4 hN4=> ?_) ?_
   ·have bad:6<w.length∨1<w.length∧(sg z).getD i 0=48→vP (fun n fs sl M'=>iY 0 B sl∧RX n fs M') "SyntaxProblem" m7 (aj (ao 1) (aj (aA (g2 aX) (ao 2) (dC (.d (.int 1)))) aH)) {nx:=N4,rt:=R} [some (.wb (.d (.str z)) B),some (.d (.int num)),some (.d (.int (i:Nat))),some (.d (.str ⟨#[(sg z).getD i 0]⟩)),some (.d (.str (tx w))),none] M3:=fun q=>by
     refine Cj n0 n1 (j:=(i:Int)+1) (by omega) (by omega) (fun RA h=>aJ (aG rfl (aJ (aO (aG rfl (aN (vm (aV h)))))))) ⟨⟨_,rfl⟩,hX _ ?_⟩
     rw [hT,if_pos q]
    refine dN (tV (bU (aO (bQ (aJ (aG rfl (aV ⟨small (by omega),aN ?_⟩)))))))
    show if decide ((6:Int)<(((tx w).length:Nat):Int))=true then _ else _
    refine gq (fun h6=>cG rfl (bad (.inl (by omega)))) (fun h6=> ?_)
    refine pA (bU (aO (bQ (aJ (aG rfl (aV ⟨small (by omega),aN ?_⟩))))))
    show if decide ((1:Int)<(((tx w).length:Nat):Int))=true then _ else _
    refine gq (fun h1=> ?_) (fun h1=>bW rfl (hN4 _ _ ⟨rfl,fun q=>by rcases q with q|q<;>omega,rfl⟩))
    refine bU (aO (aG rfl (aN (eq_str ?_))))
    rw [sign_eq (n:=48) (by decide+kernel)]
    by_cases h48:(sg z).getD i 0=48
    ·rw [decide_eq_true h48]
     exact cG rfl (bad (.inr ⟨by omega,h48⟩))
    ·rw [decide_eq_false h48]
     exact bW rfl (hN4 _ _ ⟨rfl,fun q=>by rcases q with q|q;omega;exact h48 q.2,rfl⟩)
   rintro sl M4 ⟨rfl,hno,rfl⟩
   rw [if_neg hno]at hT
   refine cJ (HY ⟨"number",tx w,(i:Int)+1⟩ (fun RA h=> ?_) fun b M' nb ht k=>hR _ b M' hT nb ht k)
   exact aJ (aN (aJ (aG rfl (aJ (aO (aG rfl (aN (vm (aV h)))))))))
 rintro sl M3 ⟨rfl,hd,rfl⟩
 
 have hT0:iV (sg z) i=match qF ((sg z).drop i)with
  |some y=> .ok ⟨"symbol",y,(i:Int)+1⟩
  |none=> .error ((i:Int)+1):=Vd hs hd
 have hT:=hT0
 refine aY (fun sl M4=>(∃(Aj eZ Ak:Option DV),sl= [some (.wb (.d (.str z)) B),some (.d (.int num)),some (.d (.int (i:Nat))),Aj,eZ,Ak])∧qF ((sg z).drop i)=none∧M4=M3) (fun N hN=> ?_) ?_
 ·unfold o9
  refine aN ?_
  refine⟨fun j sl M4=>(∃(Aj eZ Ak:Option DV),sl= [some (.wb (.d (.str z)) B),some (.d (.int num)),some (.d (.int (i:Nat))),Aj,eZ,Ak])∧(∀y∈jB.take j,¬((sg z).drop i).take (sg y).length=sg y)∧M4=M3,⟨⟨_,_,_,rfl⟩,fun y hy=>(by cases hy),rfl⟩,?_,?_⟩
  ·rintro j x sl M4 hx ⟨⟨Aj,eZ,Ak,rfl⟩,hno,rfl⟩
   obtain⟨y,hy,rfl⟩: ∃y,jB[j]? =some y∧x= .d (.str y):=by
    have hx:((jB.map PyData.str).map DV.d)[j]? =some x:=hx
    rw [List.map_map]at hx
    exact yu hx
   have hyl:y.length≤2:=by
    have h2: ∀y∈jB,y.length≤2:=by decide+kernel
    exact h2 y (List.mem_of_getElem? hy)
   refine jL ?_
   refine dN (bU (aO ?_))
   unfold fM eG
   refine fL (B:=B) rfl (aG rfl ?_)
   refine aO (aG rfl (bQ (aJ (aG rfl (aV ⟨small (by omega),?_⟩)))))
   refine⟨small (by omega),?_⟩
   have e:=Cr z i (i+(sg y).length)
   rw [Nat.add_sub_cancel_left]at e
   have el:((i:Nat):Int)+((y.length:Nat):Int)=((i+(sg y).length:Nat):Int):=by rw [str_len];omega
   rw [el,e]
   refine aG rfl (eq_str ?_)
   have ed:decide (tx (((sg z).drop i).take (sg y).length)=y)=decide (((sg z).drop i).take (sg y).length=sg y):=by
    by_cases q:((sg z).drop i).take (sg y).length=sg y
    ·rw [decide_eq_true q]
     exact decide_eq_true (uW (by rw [q]))
    ·rw [decide_eq_false q]
     refine decide_eq_false fun r=>q ?_
     have:=congrArg sg r
     exact this
   rw [ed]
   by_cases q:((sg z).drop i).take (sg y).length=sg y
   ·rw [decide_eq_true q]
    have hsy:qF ((sg z).drop i)=some y:=by
     unfold qF
     rw [List.find?_eq_some_iff_append]
     refine⟨decide_eq_true q,jB.take j,jB.drop (j+1),?_,fun x hx=> ?_⟩
     ·obtain⟨hj,ej⟩:=List.getElem?_eq_some_iff.mp hy
      rw [←ej,List.getElem_cons_drop hj,List.take_append_drop]
     ·rw [decide_eq_false (hno x hx)]
      rfl
    rw [hsy]at hT
    refine cG rfl (cJ (HY ⟨"symbol",y,(i:Int)+1⟩ (fun RA h=> ?_) fun b M' nb ht k=>hR _ b M' hT nb ht k))
    exact aJ (aN (aJ (aG rfl (aJ (aO (aG rfl (aN (vm (aV h)))))))))
   ·rw [decide_eq_false q]
    refine bW rfl ⟨⟨_,_,_,rfl⟩,fun x hx=> ?_,rfl⟩
    rw [take_snoc hy]at hx
    rcases List.mem_append.mp hx with hx|hx
    ·exact hno x hx
    ·rw [List.mem_singleton.mp hx]
     exact q
  ·rintro sl M4 ⟨⟨Aj,eZ,Ak,rfl⟩,hno,rfl⟩
   refine hN _ _ ⟨⟨_,_,_,rfl⟩,?_,rfl⟩
   unfold qF
   rw [List.find?_eq_none]
   intro y hy
   rw [decide_eq_false (hno y (by
    rw [List.take_of_length_le (by decide+kernel)]
    exact hy))]
   decide
 rintro sl M4 ⟨⟨Aj,eZ,Ak,rfl⟩,hno,rfl⟩
 rw [hno]at hT
 refine Cj n0 n1 (j:=(i:Int)+1) (by omega) (by omega) (fun RA h=>aJ (aG rfl (aJ (aO (aG rfl (aN (vm (aV h)))))))) ⟨⟨_,rfl⟩,hX _ hT⟩
theorem ahs {P:Program} {w:World} {K:PySem.W.Frag} {mg:Str→Option Value} {base:Heap} {dV:Value} {f:Addr} {fd:FuncData} (F:dw K "token_at" "token_at" z8 dV f fd) (Iu:Def P w K mg base "end_of_run" 1 wL) (qN:zW P w K mg base "SyntaxProblem" 1 m7) (vK:wW P w K mg base "Token" 1 ql) (fJ:mg "len" =none) (Iv:ji K mg "SMALL" GD) (DN:ji K mg "DIGITS" CT) (Iw:ji K mg "KEYWORDS" Hl) (Nf:ji K mg "MAX_NAME" Jt) (Nh:ji K mg "MAX_DIGITS" K9) (Nk:ji K mg "SYMBOLS" Ln):bM P w K mg base (L2.CX P w) 3 f fd ["line","number","start"] (gA K zN):=
 F.dataX CG afN 0 Yg (fun cdv A outer s H E Ex hg hr tk xo hpo=>
  (aR (bx (i:=3) CG.nd rfl (by first|exact Or.inl rfl|exact Or.inr rfl) (cH (cM 0) (au 2)))
   (aR (cP (bJ (jP hr) (au 3) (Iv.de (by rfl)) rfl) (aR (bx (i:=4) CG.nd rfl (by first|exact Or.inl rfl|exact Or.inr rfl) (jo (cM 0) (gY (au 2)) (gY (Iu.de hg (hr.mono (by decide)) (by rfl) (aq (cM 0) (aq (au 2) (aq (aU bH (Iv.de (by rfl)) (DN.de (by rfl))) aM)))))))
   (aR (cP (jU (oX (bJ (Br hr) (au 4) (Iw.de (by rfl)) rfl) (qu (bJ rM (gU jJ (by rfl) fJ (by decide+kernel) (aq (au 4) aM)) (Nf.de (by rfl)) (nomark _))))) (aW (BP qN rfl tk xo hg (hr.mono (by decide)) (by rfl) (aq (au 1) (aq (aU bH (au 2) aP) aM)))) cW)
   (aW (b_ (vK.de hg (hr.mono (by decide)) (by rfl) (aq (n_ (bJ (jP hr) (au 4) (Iw.de (by rfl)) rfl) aK aK) (aq (au 4) (aq (aU bH (au 2) aP) aM)))))))) cW)
   (aR (cP (bJ (jP hr) (au 3) (DN.de (by rfl)) rfl) (aR (bx (i:=4) CG.nd rfl (by first|exact Or.inl rfl|exact Or.inr rfl) (jo (cM 0) (gY (au 2)) (gY (Iu.de hg (hr.mono (by decide)) (by rfl) (aq (cM 0) (aq (au 2) (aq (DN.de (by rfl)) aM)))))))
   (aR (cP (jU (qT (bJ rM (gU jJ (by rfl) fJ (by decide+kernel) (aq (au 4) aM)) (Nh.de (by rfl)) (nomark _)) (tD (jU (oX (bJ rM (gU jJ (by rfl) fJ (by decide+kernel) (aq (au 4) aM)) aP (nomark _)) (qu (bJ (gj hr) (au 3) aK (nomark _)))))))) (aW (BP qN rfl tk xo hg (hr.mono (by decide)) (by rfl) (aq (au 1) (aq (aU bH (au 2) aP) aM)))) cW)
   (aW (b_ (vK.de hg (hr.mono (by decide)) (by rfl) (aq aK (aq (au 4) (aq (aU bH (au 2) aP) aM)))))))) cW)
   (aR (vO hpo rfl (v8 (Nk.de (by rfl))) (jf (i:=5) CG.nd rfl (by first|exact Or.inl rfl|exact Or.inr rfl)) (aW (cP (bJ (gj hr) (jo (cM 0) (gY (au 2)) (gY (aU bH (au 2) (gU jJ (by rfl) fJ (by decide+kernel) (aq (au 5) aM))))) (au 5) (nomark _)) (aW (b_ (vK.de hg (hr.mono (by decide)) (by rfl) (aq aK (aq (au 5) (aq (aU bH (au 2) aP) aM)))))) cW)))
   (aW (BP qN rfl tk xo hg (hr.mono (by decide)) (by rfl) (aq (au 1) (aq (aU bH (au 2) aP) aM))))))))) afw
abbrev xO:Stmt:=topS 32
abbrev X7:List Str:= ["line","number","tokens","index","token"]
theorem zq:FnScope X7 ["line","number"] (defScope xO):=⟨rfl,rfl,rfl,by decide+kernel,rfl,by decide+kernel,by decide+kernel⟩
structure qK (M M1:Mem) (p:Addr) (as:List Addr) (ts:List Tk):Prop where
 nw:M p=none
 lst:M1 p=some (.lst (as.map fun b=>DV.raw (.ref b)))
 len:as.length=ts.length
 tks: ∀(j:Nat) (b:Addr) (t:Tk),as[j]? =some b→ts[j]? =some t→iQ M1 b t
 kp:MK [] M M1
def yc:fV:=fun xs M R RX=> ∃(z:Str) (num:Int) (r:Except Int (List Tk)),xs= [.d (.str z),.d (.int num)]∧(sg z).length≤100000∧0≤num∧num<10^20∧fH (sg z) (sg z).length 0 []=some r∧
 (∀c M',r= .error c→MK [] M M'→RX "SyntaxProblem" [("column",.int c),("line",.int num)] M')∧ ∀ts p as M',r= .ok ts→qK M M' p as ts→R (.raw (.ref p)) M'
theorem qK.keep {M M1 M2:Mem} {p:Addr} {as:List Addr} {ts:List Tk} (h:qK M M1 p as ts) (k:MK [] M1 M2):qK M M2 p as ts where
 nw:=h.nw
 lst:=k _ _ h.lst (by simp)
 len:=h.len
 tks:=fun j b t hb ht=>k _ _ (h.tks j b t hb ht) (by simp)
 kp:=h.kp.trans k
theorem qK.snoc {M M1:Mem} {p:Addr} {as:List Addr} {ts:List Tk} (h:qK M M1 p as ts) {b:Addr} {t:Tk} (ht:iQ M1 b t):qK M (bD M1 p (.lst (as.map (fun b=>DV.raw (.ref b))++ [DV.raw (.ref b)]))) p (as++ [b]) (ts++ [t]) where
 nw:=h.nw
 lst:=by rw [cY,List.map_append];rfl
 len:=by rw [List.length_append,List.length_append,h.len];rfl
 tks:=fun j c u hc hu=>by
  have hne:iQ M1 c u→iQ (bD M1 p (.lst (as.map (fun b=>DV.raw (.ref b))++ [DV.raw (.ref b)]))) c u:=fun q=>by
   have q2:=q
   unfold iQ at q2 ⊢
   rw [fO (fun e=>by rw [e,h.lst]at q2;cases q2)]
   exact q2
  by_cases q:j<as.length
  ·rw [List.getElem?_append_left q]at hc
   rw [List.getElem?_append_left (by rw [←h.len];exact q)]at hu
   exact hne (h.tks j c u hc hu)
  ·rw [List.getElem?_append_right (by omega)]at hc
   rw [List.getElem?_append_right (by rw [←h.len];omega),←h.len]at hu
   have e0:j-as.length=0:=by
    have:=(List.getElem?_eq_some_iff.mp hc).1
    rw [List.length_singleton]at this
    omega
   rw [e0]at hc hu
   cases hc
   cases hu
   exact hne ht
 kp:=h.kp.upd (.inr h.nw)
def Vy (Ex:XD):bK:=(aQ (aZ 2 (u_ aH))
 (aQ (aZ 3 (dC (.d (.int 0))))
 (aQ (pC (dB (aA (g2 j8) (ao 3) (dCall iw (aj (bV 0) aH)))) (bZ (dB (aA (g2 eU) (aA bf (bV 0) (ao 3)) (dC (.d (.str " "))))) (sH 3 (dC (.d (.int 1))) (fun i j=>i+j)) (aQ (aZ 4 (Cu Ex zN (aj (bV 0) (aj (ao 1) (aj (ao 3) aH)))))
 (aQ (bZ (dB (aA (g2 eU) (dCall iw (aj (ao 2) aH)) (dC Ks))) (vP Ex "SyntaxProblem" m7 (aj (ao 1) (aj (jK "Token" "column" (ao 4)) aH))) cV)
 (aQ (mZ (ao 2) (ao 4))
 (sH 3 (dCall iw (aj (jK "Token" "text" (ao 4)) aH)) (fun i j=>i+j)))))))
 (bO (aA JZ (ao 2) (u_ (aj (wG "Token" ql (aj (dC Ca) (aj (dC (.d (.str ""))) (aj (aA (g2 aX) (dCall iw (aj (bV 0) aH)) (dC (.d (.int 1)))) aH)))) aH)))))))
theorem ae8: ∀xs M R RX,yc xs M R RX→xs.length=2:=by
 rintro xs M R RX ⟨z,num,r,rfl,_⟩
 rfl
theorem agK: ∀xs M R RX,yc xs M R RX→ ∀B,Vy (fun n fs sl M'=>iY 0 B sl∧RX n fs M') {nx:=fun _ M'=>R (.d .none) M',rt:=R} (jx 0 B (dD X7 xs)) M:=by
 rintro xs M R RX ⟨z,num,r,rfl,hz,n0,n1,hr,hX,hR⟩ B
 have hzl:=str_len z
 refine aY (fun sl M1=> ∃p,sl= [some (.wb (.d (.str z)) B),some (.d (.int num)),some (.raw (.ref p)),none,none]∧qK M M1 p [] []) (fun N hN=> ?_) ?_
 ·refine bL (aV ⟨by decide,fun p np=>hN _ _ ⟨p,rfl,np,cY,rfl,fun j b t hb _=>(by cases hb),MK.new np⟩⟩)
 rintro sl M1 ⟨p,rfl,hL⟩
 refine sq (bL (aN ?_))
 dsimp only
 refine aY (fun sl M2=> ∃(acc:List Tk) (as:List Addr) (ZJ pQ:Option DV),sl= [some (.wb (.d (.str z)) B),some (.d (.int num)),some (.raw (.ref p)),ZJ,pQ]∧r= .ok (acc++ [⟨"end","",((sg z).length:Int)+1⟩])∧acc.length≤120∧qK M M2 p as acc) (fun N hN=> ?_) ?_
 ·refine⟨fun w sl M2=> ∃(j:Nat) (acc:List Tk) (as:List Addr) (pQ:Option DV),sl= [some (.wb (.d (.str z)) B),some (.d (.int num)),some (.raw (.ref p)),some (.d (.int (j:Nat))),pQ]∧fH (sg z) w j acc=some r∧acc.length≤120∧qK M M2 p as acc,⟨_,0,[],[],_,rfl,hr,by decide,hL⟩,?_⟩
  rintro w sl M2 ⟨j,acc,as,pQ,rfl,he,ha,hT⟩
  refine bU (aO (aG rfl ?_))
  refine bQ (aJ (fL (B:=B) rfl (aV ⟨small (by omega),?_⟩)))
  show if decide (((j:Nat):Int)<((z.length:Nat):Int))=true then _ else _
  refine gq (fun hlt=> ?_) (fun hge=> ?_)
  ·have hj:j<(sg z).length:=by omega
   match w,he with
   |0,he=>
    unfold fH at he
    rw [if_pos hj]at he
    cases he
   |w+1,he=>
   unfold fH at he
   rw [if_pos hj]at he
   refine dN (bU (aO (aO (fL (B:=B) rfl (aG rfl (qC (by omega) hj (aN (eq_str ?_))))))))
   rw [sign_eq (y:= " ") (n:=32) rfl]
   by_cases hsp:(sg z).getD j 0=32
   ·rw [if_pos hsp]at he
    rw [decide_eq_true hsp]
    refine cG rfl (YK rfl ?_)
    exact⟨w,by omega,j+1,acc,as,_,rfl,he,ha,hT⟩
   ·rw [if_neg hsp]at he
    rw [decide_eq_false hsp]
    refine bW rfl ?_
    refine aY (fun sl M3=> ∃b t,sl= [some (.wb (.d (.str z)) B),some (.d (.int num)),some (.raw (.ref p)),some (.d (.int (j:Nat))),some (.raw (.ref b))]∧iV (sg z) j= .ok t∧iQ M3 b t∧qK M M3 p as acc) (fun N3 hN3=> ?_) ?_
    ·refine bL (JN (aJ (fL (B:=B) rfl (aJ (aG rfl (aJ (aG rfl (aV ?_))))))))
     refine⟨z,num,j,rfl,hj,hz,n0,n1,fun c hc=>⟨⟨_,rfl⟩,?_⟩,fun t b M' ht nb htk k=>hN3 _ _ ⟨b,t,rfl,ht,htk,hT.keep k⟩⟩
     rw [hc]at he
     exact hX c _ (Option.some.inj he).symm hT.kp
    rintro sl M3 ⟨b,t,rfl,ht,htk,hT3⟩
    rw [ht]at he
    have tok:=Va hj ht
    dsimp only at he
    refine aY (fun sl M4=>sl= [some (.wb (.d (.str z)) B),some (.d (.int num)),some (.raw (.ref p)),some (.d (.int (j:Nat))),some (.raw (.ref b))]∧acc.length≠120∧M4=M3) (fun N4 hN4=> ?_) ?_
    ·refine dN (bU (aO (bQ (aJ (aG rfl (aV (eV hT3.lst ?_)))))))
     rw [List.length_map,hT3.len]
     refine aN ?_
     show if decide (((acc.length:Nat):Int)=120)=true then _ else _
     refine gq (fun Ai=> ?_) (fun Ai=>hN4 _ _ ⟨rfl,fun q=>Ai (by omega),rfl⟩)
     rw [if_pos (by omega)]at he
     have:=tok.col
     refine Cj n0 n1 this.1 (by omega) (fun RA h=>aJ (aG rfl (aJ (mH rfl htk rfl (aV h))))) ⟨⟨_,rfl⟩,hX _ _ (Option.some.inj he).symm hT3.kp⟩
    rintro sl M4 ⟨rfl,hne,rfl⟩
    rw [if_neg hne]at he
    refine sq (aG rfl (eV hT3.lst (aG rfl (eV hT3.lst ⟨?_,?_⟩))))
    ·rw [List.length_map,hT3.len]
     exact Nat.lt_of_le_of_lt ha (by decide)
    have hT4:=hT3.snoc htk
    have aiF:iQ _ b t:=hT4.tks acc.length b t (by rw [←hT3.len,List.getElem?_append_right (Nat.le_refl _),Nat.sub_self];rfl) (by rw [List.getElem?_append_right (Nat.le_refl _),Nat.sub_self];rfl)
    have tl:=tok.len
    have tl2:=str_len t.text
    dsimp only
    refine ae0 (m:=((t.text.length:Nat):Int)) rfl (fun R hR=> ?_) ?_
    ·refine bQ (aJ ?_)
     refine mH rfl aiF rfl ?_
     exact aV ⟨small (by omega),hR⟩
    rw [show t.text.length=(sg t.text).length from str_len _]
    exact⟨w,by omega,j+(sg t.text).length,acc++ [t],as++ [b],_,rfl,he,by rw [List.length_append,List.length_singleton];omega,hT4⟩
  ·have hj: ¬j<(sg z).length:=by omega
   rw [rE hj]at he
   exact hN _ _ ⟨acc,as,_,_,rfl,(Option.some.inj he).symm,ha,hT⟩
 rintro sl M2 ⟨acc,as,ZJ,pQ,rfl,hr,ha,hT⟩
 refine cJ (aO (aG rfl ?_))
 refine aJ (HY ⟨"end","",((sg z).length:Int)+1⟩ (fun RA h=> ?_) fun b M3 nb htk k=> ?_)
 ·refine aJ (aN (aJ (aN (aJ (aO (bQ (aJ (fL (B:=B) rfl (aV ⟨small (by omega),?_⟩)))))))))
  refine aN (vm (aV ?_))
  rw [str_len]
  exact h
 have hT3:=hT.keep k
 refine aV ⟨Nat.le_of_ble_eq_true rfl,fun q nq=> ?_⟩
 have hq:M q=none:=by
  cases e:M q with
  |none=>rfl
  |some o=>rw [hT3.kp _ _ e (by simp)]at nq;cases nq
 have hpq:p≠q:=fun e=>by rw [←e,hT3.lst]at nq;cases nq
 refine eV ((fO hpq).trans hT3.lst) (eV cY ⟨?_,fun c nc=> ?_⟩)
 ·rw [List.length_map,hT3.len]
  exact Nat.le_trans (Nat.add_le_add_right ha 1) (by decide)
 have hcq:c≠q:=fun e=>by rw [e,cY]at nc;cases nc
 have hcn:M3 c=none:=by rw [fO hcq]at nc;exact nc
 have hcM:M c=none:=by
  cases e:M c with
  |none=>rfl
  |some o=>rw [hT3.kp _ _ e (by simp)]at hcn;cases hcn
 refine hR _ c (as++ [b]) _ hr ⟨hcM,?_,?_,fun j d t hd ht=> ?_,?_⟩
 ·rw [cY,List.map_append]
  rfl
 ·rw [List.length_append,List.length_append,hT3.len]
  rfl
 ·have hd2:iQ M3 d t:=by
   by_cases q:j<as.length
   ·rw [List.getElem?_append_left q]at hd
    rw [List.getElem?_append_left (by rw [←hT3.len];exact q)]at ht
    exact hT3.tks j d t hd ht
   ·rw [List.getElem?_append_right (by omega)]at hd
    rw [List.getElem?_append_right (by rw [←hT3.len];omega),←hT3.len]at ht
    have e0:j-as.length=0:=by
     have:=(List.getElem?_eq_some_iff.mp hd).1
     rw [List.length_singleton]at this
     omega
    rw [e0]at hd ht
    cases hd
    cases ht
    exact htk
  unfold iQ at hd2 ⊢
  rw [fO (fun e=>by rw [e,hcn]at hd2;cases hd2),fO (fun e=>by rw [e,nq]at hd2;cases hd2)]
  exact hd2
 ·exact(hT3.kp.upd (.inr hq)).upd (.inr hcM)
theorem agC {P:Program} {w:World} {K:PySem.W.Frag} {mg:Str→Option Value} {base:Heap} {dV:Value} {f:Addr} {fd:FuncData} (F:dw K "tokens_of" "tokens_of" xO dV f fd) (Nm:DefX P w K mg base "token_at" 3 zN) (qN:zW P w K mg base "SyntaxProblem" 1 m7) (vK:wW P w K mg base "Token" 1 ql) (fJ:mg "len" =none) (Np:ji K mg "MAX_TOKENS" Ks) (Am:ji K mg "END" Ca) (uF:fB K "Token" "column") (lE:fB K "Token" "text"):bM P w K mg base (L2.CX P w) 4 f fd ["line","number"] (gA K yc):=
 F.dataX zq ae8 0 Vy (fun cdv A outer s H E Ex hg hr tk xo hpo=>
  (aR (bx (i:=2) zq.nd rfl (by first|exact Or.inl rfl|exact Or.inr rfl) (wj aM))
   (aR (bx (i:=3) zq.nd rfl (by first|exact Or.inl rfl|exact Or.inr rfl) aP)
   (aR (sW hpo (bJ (qZ hr) (au 3) (gU jJ (by rfl) fJ (by decide+kernel) (aq (cM 0) aM)) (nomark _)) (aW (cP (bJ (gj hr) (cH (cM 0) (au 3)) aK (nomark _)) (aW (Lg (i:=3) zq.nd rfl (by first|exact Or.inl rfl|exact Or.inr rfl) aP ip_add)) (aR (bx (i:=4) zq.nd rfl (by first|exact Or.inl rfl|exact Or.inr rfl) (Nm.de tk xo hg (hr.mono (by decide)) (by rfl) (aq (cM 0) (aq (au 1) (aq (au 3) aM)))))
   (aR (cP (bJ (gj hr) (gU jJ (by rfl) fJ (by decide+kernel) (aq (au 2) aM)) (Np.de (by rfl)) (nomark _)) (aW (BP qN rfl tk xo hg (hr.mono (by decide)) (by rfl) (aq (au 1) (aq (kY uF (au 4)) aM)))) cW)
   (aR (xX (au 2) (au 4))
   (aW (Lg (i:=3) zq.nd rfl (by first|exact Or.inl rfl|exact Or.inr rfl) (gU jJ (by rfl) fJ (by decide+kernel) (aq (kY lE (au 4)) aM)) ip_add))))))))
   (aW (b_ (aU adg (au 2) (wj (aq (vK.de hg (hr.mono (by decide)) (by rfl) (aq (Am.de (by rfl)) (aq aK (aq (aU bH (gU jJ (by rfl) fJ (by decide+kernel) (aq (cM 0) aM)) aP) aM)))) aM))))))))) agK
abbrev zp:Stmt:=j_ 33 0
abbrev X6:List Str:= ["self","line","number","names"]
theorem ahj:FnScope X6 ["self","line","number","names"] (defScope zp):=⟨rfl,rfl,rfl,by decide+kernel,rfl,by decide+kernel,by decide+kernel⟩
def xQ:fV:=fun xs M R RX=> ∃(a:Addr) (z:Str) (num:Int) (v:DV) (nm:List Str) (r:Except Int (List Tk)),xs= [.raw (.ref a),.d (.str z),.d (.int num),v]∧M a=some (.ins "LineParser" [])∧(sg z).length≤100000∧0≤num∧num<10^20∧Xn M v nm∧fH (sg z) (sg z).length 0 []=some r∧
 (∀c M',r= .error c→MK [a] M M'→RX "SyntaxProblem" [("column",.int c),("line",.int num)] M')∧ ∀L M',r= .ok L.toks→L.number=num→L.v=v→L.nm=nm→cA M' a L 0 0→MK [a] M M'→R (.d .none) M'
def U3 (Ex:XD):bK:=(aQ (tQ "LineParser" "number" (ao 2) (bV 0))
 (aQ (tQ "LineParser" "names" (ao 3) (bV 0))
 (aQ (tQ "LineParser" "tokens" (Cu Ex yc (aj (ao 1) (aj (ao 2) aH))) (bV 0))
 (aQ (tQ "LineParser" "index" (dC (.d (.int 0))) (bV 0))
 (tQ "LineParser" "depth" (dC (.d (.int 0))) (bV 0))))))
theorem ags: ∀xs M R RX,xQ xs M R RX→xs.length=4:=by
 rintro xs M R RX ⟨a,z,num,v,nm,r,rfl,_⟩
 rfl
theorem adH: ∀xs M R RX,xQ xs M R RX→ ∀B,U3 (fun n fs sl M'=>iY 0 B sl∧RX n fs M') {nx:=fun _ M'=>R (.d .none) M',rt:=R} (jx 0 B (dD X6 xs)) M:=by
 rintro xs M R RX ⟨a,z,num,v,nm,r,rfl,ha,hz,n0,n1,hn,hr,hX,hR⟩ B
 refine sq (aG rfl (fL (B:=B) rfl (gH ha ⟨Nat.le_of_ble_eq_true rfl,?_⟩)))
 refine sq (aG rfl (fL (B:=B) rfl (gH cY ⟨Nat.le_of_ble_eq_true rfl,?_⟩)))
 rw [qH]
 have e2:(bD M a (.ins "LineParser" [("number",.d (.int num)),("names",v)])) a=some (.ins "LineParser" [("number",.d (.int num)),("names",v)]):=cY
 have k2:MK [a] M (bD M a (.ins "LineParser" [("number",.d (.int num)),("names",v)])):=lO
 refine sq (JN (aJ (aG rfl (aJ (aG rfl (aV ?_))))))
 refine⟨z,num,r,rfl,hz,n0,n1,hr,fun c M' hc k=>⟨⟨_,rfl⟩,hX c M' hc (k2.trans (k.mono fun x hx=>by cases hx))⟩,fun ts p as M3 hts hT=> ?_⟩
 have k3:MK [a] M M3:=k2.trans (hT.kp.mono fun x hx=>by cases hx)
 have e3:=hT.kp _ _ e2 (by simp)
 refine fL (B:=B) rfl (gH e3 ⟨Nat.le_of_ble_eq_true rfl,?_⟩)
 refine sq (aN ?_)
 refine fL (B:=B) rfl (gH cY ⟨Nat.le_of_ble_eq_true rfl,?_⟩)
 dsimp only
 refine aN ?_
 refine fL (B:=B) rfl (gH cY ⟨Nat.le_of_ble_eq_true rfl,?_⟩)
 rw [qH,qH]
 refine hR ⟨num,v,nm,p,ts,as⟩ _ hts rfl rfl rfl ⟨cY,?_,hT.len,?_,?_,?_,n0,n1⟩ ?_
 ·have hp:p≠a:=fun e=>by have h:=hT.lst;rw [e,e3]at h;cases h
  exact(fO hp).trans hT.lst
 ·intro j b t hb ht
  have h:=hT.tks j b t hb ht
  unfold iQ at h ⊢
  rw [fO (fun e=>by
   rw [e,e3]at h
   have h2:=(MO.ins.inj (Option.some.inj h)).1
   exact absurd h2 (by decide+kernel))]
  exact h
 ·rcases hn with h1|⟨q,kvs,e1,e4,h1⟩
  ·exact .inl h1
  ·have hqa:q≠a:=fun e=>by rw [e,ha]at e4;cases e4
   refine .inr ⟨q,kvs,e1,?_,h1⟩
   rw [fO hqa]
   exact k3 _ _ e4 (by simpa using hqa)
 ·exact B_ hz _ _ _ _ (fun t ht=>by cases ht) (by decide) (hts▸hr)
 ·exact k3.trans lO
theorem afK {P:Program} {w:World} {K:PySem.W.Frag} {mg:Str→Option Value} {base:Heap} {dV:Value} {f:Addr} {fd:FuncData} (F:dw K "__init__" "LineParser.__init__" zp dV f fd) (Nq:DefX P w K mg base "tokens_of" 4 yc) (Ao:fB K "LineParser" "number") (Aq:fB K "LineParser" "names") (Ar:fB K "LineParser" "tokens") (lW:fB K "LineParser" "index") (lX:fB K "LineParser" "depth"):bM P w K mg base (L2.CX P w) 5 f fd ["self","line","number","names"] (gA K xQ):=
 F.dataX ahj ags 0 U3 (fun cdv A outer s H E Ex hg hr tk xo hpo=>
  (aR (vG Ao (au 2) (cM 0))
   (aR (vG Aq (au 3) (cM 0))
   (aR (vG Ar (Nq.de tk xo hg (hr.mono (by decide)) (by rfl) (aq (au 1) (aq (au 2) aM))) (cM 0))
   (aR (vG lW aP (cM 0))
   (aW (vG lX aP (cM 0)))))))) adH
abbrev zR:Stmt:=j_ 33 1
abbrev VP:List Str:= ["self"]
theorem acT:FnScope VP ["self"] (defScope zR):=⟨rfl,rfl,rfl,by decide+kernel,rfl,by decide+kernel,by decide+kernel⟩
def oM:dM:=fun xs M R=> ∃(a:Addr) (L:LP) (i:Nat) (d:Int),xs= [.raw (.ref a)]∧cA M a L i d∧i<L.toks.length∧ ∀b,L.at_[i]? =some b→iQ M b (tk L.toks i)→R (.raw (.ref b)) M
def XM:bK:=(bO (aA bf (jK "LineParser" "tokens" (ao 0)) (jK "LineParser" "index" (ao 0))))
theorem aeX: ∀xs M R,oM xs M R→xs.length=1:=by
 rintro xs M R ⟨a,L,i,d,rfl,_⟩
 rfl
theorem aiv: ∀xs M R,oM xs M R→XM {nx:=fun _ M'=>R (.d .none) M',rt:=R} (dD VP xs) M:=by
 rintro xs M R ⟨a,L,i,d,rfl,hL,hi,hR⟩
 obtain⟨b,hb,ht⟩:=hL.token hi
 refine cJ (aO ?_)
 refine mH rfl hL.obj (ahR L i d) ?_
 refine mH rfl hL.obj (LQ L i d) ?_
 refine eV hL.lst (bB (x:=DV.raw (.ref b)) (atI_nat (by rw [List.getElem?_map,hb];rfl)) ?_)
 exact hR b hb ht
theorem aeu {P:Program} {w:World} {K:PySem.W.Frag} {mg:Str→Option Value} {base:Heap} {dV:Value} {f:Addr} {fd:FuncData} (F:dw K "peek" "LineParser.peek" zR dV f fd) (Ar:fB K "LineParser" "tokens") (lW:fB K "LineParser" "index"):bM P w K mg base CX0 1 f fd ["self"] (dO K oM):=
 F.data acT aeX XM (fun cdv A outer s H E hg hr=>
  (aW (b_ (cH (kY Ar (au 0)) (kY lW (au 0)))))) aiv
abbrev yC:Stmt:=j_ 33 2
abbrev Xd:List Str:= ["self","token"]
theorem ade:FnScope Xd ["self","token"] (defScope yC):=⟨rfl,rfl,rfl,by decide+kernel,rfl,by decide+kernel,by decide+kernel⟩
def oA:fV:=fun xs M R RX=> ∃(a b:Addr) (L:LP) (i:Nat) (d:Int) (t:Tk),xs= [.raw (.ref a),.raw (.ref b)]∧cA M a L i d∧iQ M b t∧0≤t.col∧t.col<10^20∧RX "SyntaxProblem" (qR L t.col) M
theorem pB {te:TD} {D:fD} {sl:Slots} {M:Mem} (h:te sl M fun _ M1=>D.nx sl M1):gW te D sl M:=h
theorem Jg {Ex:XD} {tas:eY} {sl:Slots} {M:Mem} {R:KD} {a b:Addr} {L:LP} {i:Nat} {d:Int} {t:Tk} {B:Hp} (e:sl[0]? =some (some (.wb (.raw (.ref a)) B))) (hL:cA M a L i d) (ht:iQ M b t) (ok:0≤t.col∧t.col<10^20) (hta: ∀RA:KA,RA [.raw (.ref b)] M→tas sl M RA) (hX:Ex "SyntaxProblem" (qR L t.col) sl M):fu Ex "LineParser" "fail" oA (bV 0) tas sl M R:=
 fL e (gH hL.obj ⟨rfl,hta _ ⟨a,b,L,i,d,t,rfl,hL,ht,ok.1,ok.2,hX⟩⟩)
theorem cA.cols {M:Mem} {a:Addr} {L:LP} {i:Nat} {d:Int} (h:cA M a L i d) (hi:i<L.toks.length):0≤(tk L.toks i).col∧(tk L.toks i).col<10^20:=h.ok.col _ (List.mem_of_getElem? (nO hi))
theorem U9 {to:TD} {sl:Slots} {M:Mem} {R:KD} {a:Addr} {L:LP} {i:Nat} {d:Int} (hto: ∀R:KD,R (.raw (.ref a)) M→to sl M R) (hL:cA M a L i d) (hi:i<L.toks.length) (h: ∀b,L.at_[i]? =some b→iQ M b (tk L.toks i)→R (.raw (.ref b)) M):iZ "LineParser" "peek" oM to aH sl M R:=
 hto _ (gH hL.obj ⟨rfl,⟨a,L,i,d,rfl,hL,hi,h⟩⟩)
def WW (Ex:XD):bK:=(vP Ex "SyntaxProblem" m7 (aj (jK "LineParser" "number" (bV 0)) (aj (jK "Token" "column" (ao 1)) aH)))
theorem agn: ∀xs M R RX,oA xs M R RX→xs.length=2:=by
 rintro xs M R RX ⟨a,b,L,i,d,t,rfl,_⟩
 rfl
theorem ahL: ∀xs M R RX,oA xs M R RX→ ∀B,WW (fun n fs sl M'=>iY 0 B sl∧RX n fs M') {nx:=fun _ M'=>R (.d .none) M',rt:=R} (jx 0 B (dD Xd xs)) M:=by
 rintro xs M R RX ⟨a,b,L,i,d,t,rfl,hL,ht,c0,c1,h⟩ B
 refine Cj hL.n0 hL.n1 c0 c1 (fun RA hRA=> ?_) ⟨⟨_,rfl⟩,h⟩
 refine aJ (Jv rfl hL.obj (ahp L i d) ?_)
 refine aJ (mH rfl ht rfl ?_)
 exact aV hRA
theorem ahY {P:Program} {w:World} {K:PySem.W.Frag} {mg:Str→Option Value} {base:Heap} {dV:Value} {f:Addr} {fd:FuncData} (F:dw K "fail" "LineParser.fail" yC dV f fd) (qN:zW P w K mg base "SyntaxProblem" 1 m7) (uF:fB K "Token" "column") (Ao:fB K "LineParser" "number"):bM P w K mg base (L2.CX P w) 3 f fd ["self","token"] (gA K oA):=
 F.dataX ade agn 0 WW (fun cdv A outer s H E Ex hg hr tk xo hpo=>
  (aW (BP qN rfl tk xo hg (hr.mono (by decide)) (by rfl) (aq (kY Ao (cM 0)) (aq (kY uF (au 1)) aM))))) ahL
abbrev yZ:Stmt:=j_ 33 6
abbrev Ux:List Str:= ["self"]
theorem acp:FnScope Ux ["self"] (defScope yZ):=⟨rfl,rfl,rfl,by decide+kernel,rfl,by decide+kernel,by decide+kernel⟩
def qP:fV:=fun xs M R RX=> ∃(a:Addr) (L:LP) (i:Nat) (d:Int),xs= [.raw (.ref a)]∧cA M a L i d∧i<L.toks.length∧
 (¬30<d+1→ ∀M',cA M' a L i (d+1)→MK [a] M M'→R (.d .none) M')∧(30<d+1→ ∀M',MK [a] M M'→RX "SyntaxProblem" (qR L (tk L.toks i).col) M')
def Zg (Ex:XD):bK:=(aQ (pF "LineParser" "depth" (fun i j=>i+j) (bV 0) (dC (.d (.int 1))))
 (bZ (dB (aA (g2 (jX fun i j=>decide (j<i))) (jK "LineParser" "depth" (bV 0)) (dC Lp))) (gW (fu Ex "LineParser" "fail" oA (bV 0) (aj (iZ "LineParser" "peek" oM (bV 0) aH) aH))) cV))
theorem ada: ∀xs M R RX,qP xs M R RX→xs.length=1:=by
 rintro xs M R RX ⟨a,L,i,d,rfl,_⟩
 rfl
theorem afx: ∀xs M R RX,qP xs M R RX→ ∀B,Zg (fun n fs sl M'=>iY 0 B sl∧RX n fs M') {nx:=fun _ M'=>R (.d .none) M',rt:=R} (jx 0 B (dD Ux xs)) M:=by
 rintro xs M R RX ⟨a,L,i,d,rfl,hL,hi,hR,hX⟩ B
 refine sq (Gv (B:=B) rfl hL fun M1 hL1 k1=> ?_)
 dsimp only
 refine dN (bU (aO ?_))
 refine Jv (B:=B) rfl hL1.obj (VD L i (d+1)) ?_
 refine aN ?_
 show if decide (30<d+1)=true then _ else _
 refine gq (fun c=> ?_) (fun c=> ?_)
 ·obtain⟨b,hb,ht⟩:=hL1.token hi
  refine pB (Jg (B:=B) (b:=b) rfl hL1 ht (hL1.cols hi) (fun RA h=>aJ (U9 (fun R h=>fL (B:=B) rfl h) hL1 hi fun b' hb' ht'=> ?_)) ⟨⟨_,rfl⟩,hX c M1 k1⟩)
  rw [hb]at hb'
  cases hb'
  exact aV h
 ·exact hR c M1 hL1 k1
theorem ad2 {P:Program} {w:World} {K:PySem.W.Frag} {mg:Str→Option Value} {base:Heap} {dV:Value} {f:Addr} {fd:FuncData} (F:dw K "enter" "LineParser.enter" yZ dV f fd) (pX:jW P w K mg base "LineParser" "peek" 1 oM) (uG:dX P w K mg base "LineParser" "fail" 3 oA) (Nr:ji K mg "MAX_DEPTH" Lp) (lX:fB K "LineParser" "depth"):bM P w K mg base (L2.CX P w) 4 f fd ["self"] (gA K qP):=
 F.dataX acp ada 0 Zg (fun cdv A outer s H E Ex hg hr tk xo hpo=>
  (aR (uZ lX (cM 0) aP Bo)
   (aW (cP (bJ rM (kY lX (cM 0)) (Nr.de (by rfl)) (nomark _)) (aW (ju (uG.de tk xo hg (hr.mono (by decide)) (cM 0) (aq (pX.de0 hg (hr.mono (by decide)) (cM 0)) aM)))) cW)))) afx
abbrev yt:Stmt:=j_ 33 4
abbrev Yb:List Str:= ["self","kind","texts","token"]
theorem Uh:FnScope Yb ["self","kind","texts"] (defScope yt):=⟨rfl,rfl,rfl,by decide+kernel,rfl,by decide+kernel,by decide+kernel⟩
def iJ:dM:=fun xs M R=> ∃(a:Addr) (L:LP) (i:Nat) (d:Int) (kind:Str) (l:List Str),xs= [.raw (.ref a),.d (.str kind),.d (.tuple (l.map PyData.str))]∧cA M a L i d∧i<L.toks.length∧
 ((tk L.toks i).kind=kind∧(tk L.toks i).text∈l→ ∀M',cA M' a L (i+1) d→MK [a] M M'→R (.d (.str (tk L.toks i).text)) M')∧(¬((tk L.toks i).kind=kind∧(tk L.toks i).text∈l)→R (.d .none) M)
def Ze:bK:=(aQ (aZ 3 (iZ "LineParser" "peek" oM (ao 0) aH))
 (aQ (bZ (mD (dB (aA (g2 jC) (jK "Token" "kind" (ao 3)) (ao 1))) (dB (aA (g2 (inD true)) (jK "Token" "text" (ao 3)) (ao 2)))) (bO (dC (.d .none))) cV)
 (aQ (pF "LineParser" "index" (fun i j=>i+j) (ao 0) (dC (.d (.int 1))))
 (bO (jK "Token" "text" (ao 3))))))
theorem afP: ∀xs M R,iJ xs M R→xs.length=3:=by
 rintro xs M R ⟨a,L,i,d,kind,l,rfl,_⟩
 rfl
theorem af6: ∀xs M R,iJ xs M R→Ze {nx:=fun _ M'=>R (.d .none) M',rt:=R} (dD Yb xs) M:=by
 rintro xs M R ⟨a,L,i,d,kind,l,rfl,hL,hi,hR,hN0⟩
 refine aY (fun sl M1=> ∃b,sl= [some (.raw (.ref a)),some (.d (.str kind)),some (.d (.tuple (l.map PyData.str))),some (.raw (.ref b))]∧L.at_[i]? =some b∧iQ M b (tk L.toks i)∧M1=M) (fun N hN=> ?_) ?_
 ·refine bL (aG rfl (gH hL.obj ⟨rfl,?_⟩))
  exact⟨a,L,i,d,rfl,hL,hi,fun b hb ht=>hN _ _ ⟨b,rfl,hb,ht,rfl⟩⟩
 rintro sl M1 ⟨b,rfl,hb,ht,rfl⟩
 refine aY (fun sl M2=>sl= [some (.raw (.ref a)),some (.d (.str kind)),some (.d (.tuple (l.map PyData.str))),some (.raw (.ref b))]∧((tk L.toks i).kind=kind∧(tk L.toks i).text∈l)∧M2=M1) (fun N hN=> ?_) ?_
 ·refine dN (tV (bU (aO ?_)))
  refine mH rfl ht rfl ?_
  refine aG rfl (ne_str ?_)
  by_cases hk:(tk L.toks i).kind=kind
  ·rw [decide_eq_true hk]
   refine bW rfl ?_
   refine bU (aO ?_)
   refine mH rfl ht rfl ?_
   refine aG rfl (Lj ?_)
   by_cases hy:(tk L.toks i).text∈l
   ·rw [decide_eq_true hy]
    exact bW rfl (hN _ _ ⟨rfl,⟨hk,hy⟩,rfl⟩)
   ·rw [decide_eq_false hy]
    exact cG rfl (cJ (aN (hN0 fun z=>hy z.2)))
  ·rw [decide_eq_false hk]
   exact cG rfl (cG rfl (cJ (aN (hN0 fun z=>hk z.1))))
 rintro sl M2 ⟨rfl,hok,rfl⟩
 refine sq (ah4 rfl hL fun M3 hL3 k3=> ?_)
 have ht3:iQ M3 b (tk L.toks i):=hL3.tks i b _ hb (nO hi)
 dsimp only
 exact cJ (mH rfl ht3 rfl (hR hok M3 hL3 k3))
theorem aew {P:Program} {w:World} {K:PySem.W.Frag} {mg:Str→Option Value} {base:Heap} {dV:Value} {f:Addr} {fd:FuncData} (F:dw K "accept" "LineParser.accept" yt dV f fd) (pX:jW P w K mg base "LineParser" "peek" 1 oM) (oU:fB K "Token" "kind") (lE:fB K "Token" "text") (lW:fB K "LineParser" "index"):bM P w K mg base CX0 2 f fd ["self","kind","texts"] (dO K iJ):=
 F.data Uh afP Ze (fun cdv A outer s H E hg hr=>
  (aR (bx (i:=3) Uh.nd rfl (by first|exact Or.inl rfl|exact Or.inr rfl) (pX.de0 hg (hr.mono (by decide)) (au 0)))
   (aR (cP (jU (qT (bJ (mO hr) (kY oU (au 3)) (au 1) (nomark _)) (tD (bJ (Br hr) (kY lE (au 3)) (au 2) rfl)))) (aW (b_ fY)) cW)
   (aR (uZ lW (au 0) aP Bo)
   (aW (b_ (kY lE (au 3)))))))) af6
abbrev xU:Stmt:=j_ 33 3
abbrev Yk:List Str:= ["self","kind","text","token"]
theorem Zb:FnScope Yk ["self","kind","text"] (defScope xU):=⟨rfl,rfl,rfl,by decide+kernel,rfl,by decide+kernel,by decide+kernel⟩
def FZ:Option Str→PyData
 |none=> .none
 |some x=> .str x
def HD (t:Tk) (kind:Str) (x:Option Str):Prop:=t.kind=kind∧ ∀y,x=some y→t.text=y
def mX:fV:=fun xs M R RX=> ∃(a:Addr) (L:LP) (i:Nat) (d:Int) (kind:Str) (x:Option Str),xs= [.raw (.ref a),.d (.str kind),.d (FZ x)]∧cA M a L i d∧i<L.toks.length∧
 (HD (tk L.toks i) kind x→ ∀b M',L.at_[i]? =some b→iQ M' b (tk L.toks i)→cA M' a L (i+1) d→MK [a] M M'→R (.raw (.ref b)) M')∧(¬HD (tk L.toks i) kind x→RX "SyntaxProblem" (qR L (tk L.toks i).col) M)
def E_:fV:=fun xs M R RX=>mX (xs++ [.d .none]) M R RX
theorem abY: ∀xs M R RX,E_ xs M R RX→mX (xs++ [.d .none]) M R RX:=fun _ _ _ _ h=>h
theorem Cy {kind x:Str} {Ex_:XD} {sl:Slots} {M:Mem} {R:KD} {a:Addr} {L:LP} {i:Nat} {d:Int} {B:Hp} (e:sl[0]? =some (some (.wb (.raw (.ref a)) B))) (hL:cA M a L i d) (hi:i<L.toks.length) (hne:kind≠ "end")
  (hx: ¬dU L.toks kind x i→Ex_ "SyntaxProblem" (qR L (tk L.toks i).col) sl M) (hk: ∀b M',dU L.toks kind x i→cA M' a L (i+1) d→i+1<L.toks.length→MK [a] M M'→R (.raw (.ref b)) M'):fu Ex_ "LineParser" "take" mX (bV 0) (aj (dC (.d (.str kind))) (aj (dC (.d (.str x))) aH)) sl M R:=
 fL e (gH hL.obj ⟨rfl,aJ (aN (aJ (aN (aV ⟨a,L,i,d,kind,some x,rfl,hL,hi,fun h b M' hb ht h3 k3=>hk b M' ⟨h.1,h.2 x rfl⟩ h3 (hL.next hi (by rw [h.1];exact hne)) k3,fun h=>hx fun z=>h ⟨z.1,fun y q=>by cases q;exact z.2⟩⟩))))⟩)
theorem Ft {kind x:Str} {sl:Slots} {M:Mem} {RB:KB} {a:Addr} {L:LP} {i:Nat} {d:Int} {B:Hp} (e:sl[0]? =some (some (.wb (.raw (.ref a)) B))) (hL:cA M a L i d) (hi:i<L.toks.length) (hne:kind≠ "end")
  (hy:dU L.toks kind x i→ ∀M',cA M' a L (i+1) d→i+1<L.toks.length→MK [a] M M'→RB true M') (hn: ¬dU L.toks kind x i→RB false M):dB (aA kZ (iZ "LineParser" "accept" iJ (bV 0) (aj (dC (.d (.str kind))) (aj (dTup (aj (dC (.d (.str x))) aH)) aH))) (dC (.d .none))) sl M RB:=by
 refine bU (aO ?_)
 refine fL e (gH hL.obj ⟨rfl,aJ (aN (aJ ?_))⟩)
 refine dR (ds:= [.str x]) ?_
 refine aV ⟨a,L,i,d,kind,[x],rfl,hL,hi,fun⟨h1,h2⟩ M' h3 k3=> ?_,fun h=> ?_⟩
 ·have h2:=List.mem_singleton.mp h2
  exact aN (Dt (hy ⟨h1,h2⟩ M' h3 (hL.next hi (by rw [h1];exact hne)) k3))
 ·exact aN (Bq (hn fun z=>h ⟨z.1,List.mem_singleton.mpr z.2⟩))
def U6 (Ex:XD):bK:=(aQ (aZ 3 (iZ "LineParser" "peek" oM (bV 0) aH))
 (aQ (bZ (mD (dB (aA (g2 jC) (jK "Token" "kind" (ao 3)) (ao 1))) (jG (dB (aA kZ (ao 2) (dC (.d .none)))) (dB (aA (g2 jC) (jK "Token" "text" (ao 3)) (ao 2))))) (gW (fu Ex "LineParser" "fail" oA (bV 0) (aj (ao 3) aH))) cV)
 (aQ (pF "LineParser" "index" (fun i j=>i+j) (bV 0) (dC (.d (.int 1))))
 (bO (ao 3)))))
theorem ahC: ∀xs M R RX,mX xs M R RX→xs.length=3:=by
 rintro xs M R RX ⟨a,L,i,d,kind,x,rfl,_⟩
 rfl
theorem ac8: ∀xs M R RX,mX xs M R RX→ ∀B,U6 (fun n fs sl M'=>iY 0 B sl∧RX n fs M') {nx:=fun _ M'=>R (.d .none) M',rt:=R} (jx 0 B (dD Yk xs)) M:=by
 rintro xs M R RX ⟨a,L,i,d,kind,x,rfl,hL,hi,hR,hX⟩ B
 refine aY (fun sl M1=> ∃b,sl= [some (.wb (.raw (.ref a)) B),some (.d (.str kind)),some (.d (FZ x)),some (.raw (.ref b))]∧L.at_[i]? =some b∧iQ M b (tk L.toks i)∧M1=M) (fun N hN=> ?_) ?_
 ·refine bL (fL rfl (gH hL.obj ⟨rfl,?_⟩))
  exact⟨a,L,i,d,rfl,hL,hi,fun b hb ht=>hN _ _ ⟨b,rfl,hb,ht,rfl⟩⟩
 rintro sl M1 ⟨b,rfl,hb,ht,rfl⟩
 have bad: ∀N:Slots→Mem→Prop,¬HD (tk L.toks i) kind x→gW (fu (fun n fs sl M'=>iY 0 B sl∧RX n fs M') "LineParser" "fail" oA (bV 0) (aj (ao 3) aH)) {nx:=N,rt:=R} [some (.wb (.raw (.ref a)) B),some (.d (.str kind)),some (.d (FZ x)),some (.raw (.ref b))] M1:=fun N hno=>
  pB (Jg (B:=B) (b:=b) rfl hL ht (hL.cols hi) (fun RA h=>aJ (aG rfl (aV h))) ⟨⟨_,rfl⟩,hX hno⟩)
 refine aY (fun sl M2=>sl= [some (.wb (.raw (.ref a)) B),some (.d (.str kind)),some (.d (FZ x)),some (.raw (.ref b))]∧HD (tk L.toks i) kind x∧M2=M1) (fun N hN=> ?_) ?_
 ·refine dN (tV (bU (aO ?_)))
  refine mH rfl ht rfl ?_
  refine aG rfl (ne_str ?_)
  by_cases hk:(tk L.toks i).kind=kind
  ·rw [decide_eq_true hk]
   refine bW rfl ?_
   refine pA (bU (aO (aG rfl (aN ?_))))
   cases x with
   |none=>
    refine Bq (bW rfl (bW rfl ?_))
    exact hN _ _ ⟨rfl,⟨hk,fun y z=>(by cases z)⟩,rfl⟩
   |some y=>
    refine Dt (cG rfl ?_)
    refine bU (aO ?_)
    refine mH rfl ht rfl ?_
    refine aG rfl (ne_str ?_)
    by_cases hy:(tk L.toks i).text=y
    ·rw [decide_eq_true hy]
     exact bW rfl (hN _ _ ⟨rfl,⟨hk,fun z e=>hy.trans (Option.some.inj e)⟩,rfl⟩)
    ·rw [decide_eq_false hy]
     exact cG rfl (bad N fun z=>hy (z.2 y rfl))
  ·rw [decide_eq_false hk]
   exact cG rfl (cG rfl (bad N fun z=>hk z.1))
 rintro sl M2 ⟨rfl,hok,rfl⟩
 refine sq (Mg rfl hL fun M3 hL3 k3=> ?_)
 have ht3:iQ M3 b (tk L.toks i):=hL3.tks i b _ hb (nO hi)
 dsimp only
 exact cJ (aG rfl (hR hok b M3 hb ht3 hL3 k3))
theorem aik {P:Program} {w:World} {K:PySem.W.Frag} {mg:Str→Option Value} {base:Heap} {dV:Value} {f:Addr} {fd:FuncData} (F:dw K "take" "LineParser.take" xU dV f fd) (pX:jW P w K mg base "LineParser" "peek" 1 oM) (uG:dX P w K mg base "LineParser" "fail" 3 oA) (oU:fB K "Token" "kind") (lE:fB K "Token" "text") (lW:fB K "LineParser" "index"):bM P w K mg base (L2.CX P w) 4 f fd ["self","kind","text"] (gA K mX):=
 F.dataX Zb ahC 0 U6 (fun cdv A outer s H E Ex hg hr tk xo hpo=>
  (aR (bx (i:=3) Zb.nd rfl (by first|exact Or.inl rfl|exact Or.inr rfl) (pX.de0 hg (hr.mono (by decide)) (cM 0)))
   (aR (cP (jU (qT (bJ (mO hr) (kY oU (au 3)) (au 1) (nomark _)) (tD (jU (oX (bJ oY (au 2) fY (nomark _)) (qu (bJ (mO hr) (kY lE (au 3)) (au 2) (nomark _)))))))) (aW (ju (uG.de tk xo hg (hr.mono (by decide)) (cM 0) (aq (au 3) aM)))) cW)
   (aR (uZ lW (cM 0) aP Bo)
   (aW (b_ (au 3))))))) ac8
abbrev zF:Stmt:=j_ 33 14
abbrev Wh:List Str:= ["self","operator"]
theorem Zw:FnScope Wh ["self"] (defScope zF):=⟨rfl,rfl,rfl,by decide+kernel,rfl,by decide+kernel,by decide+kernel⟩
def vf:dM:=fun xs M R=> ∃(a:Addr) (L:LP) (i:Nat) (d:Int),xs= [.raw (.ref a)]∧cA M a L i d∧i<L.toks.length∧
 match jD L.toks i with
 |some o=> ∀M',cA M' a L (i+1) d→i+1<L.toks.length→MK [a] M M'→R (.d (.str o.s)) M'
 |none=>R (.d .none) M
def U0:bK:=(aQ (aZ 1 (iZ "LineParser" "accept" iJ (ao 0) (aj (dC (.d (.str "symbol"))) (aj (dTup (aj (dC (.d (.str "*"))) aH)) aH))))
 (bO (jY (dB (aA mQ (ao 1) (dC (.d .none)))) (iZ "LineParser" "accept" iJ (ao 0) (aj (dC (.d (.str "word"))) (aj (dTup (aj (dC (.d (.str "mod"))) aH)) aH))) (ao 1))))
theorem ae9: ∀xs M R,vf xs M R→xs.length=1:=by
 rintro xs M R ⟨a,L,i,d,rfl,_⟩
 rfl
theorem Bb {to:TD} {sl:Slots} {M:Mem} {R:KD} {a:Addr} {L:LP} {i:Nat} {d:Int} {kind:Str} {l:List Op} (hto: ∀R:KD,R (.raw (.ref a)) M→to sl M R) (hL:cA M a L i d) (hi:i<L.toks.length) (hk:kind≠ "end") {tas:eY} (hta: ∀RA:KA,RA [.d (.str kind),.d (.tuple (l.map fun o=>PyData.str o.s))] M→tas sl M RA)
  (hy: ∀o M',cQ L.toks kind l i=some o→cA M' a L (i+1) d→i+1<L.toks.length→MK [a] M M'→R (.d (.str o.s)) M') (hn:cQ L.toks kind l i=none→R (.d .none) M):iZ "LineParser" "accept" iJ to tas sl M R:=by
 refine hto _ (gH hL.obj ⟨rfl,hta _ ?_⟩)
 have el:(l.map fun o=>PyData.str o.s)=(l.map Op.s).map PyData.str:=by rw [List.map_map];rfl
 refine⟨a,L,i,d,kind,l.map Op.s,by rw [el],hL,hi,fun⟨h1,h2⟩ M' h3 k3=> ?_,fun h=>hn (Lw.mpr h)⟩
 cases e:cQ L.toks kind l i with
 |none=>exact absurd ⟨h1,h2⟩ (Lw.mp e)
 |some o=>
  have e2:=(Zx e).2.1
  rw [e2]
  exact hy o M' e h3 (hL.next hi (by rw [h1];exact hk)) k3
theorem ae6: ∀xs M R,vf xs M R→U0 {nx:=fun _ M'=>R (.d .none) M',rt:=R} (dD Wh xs) M:=by
 rintro xs M R ⟨a,L,i,d,rfl,hL,hi,hR⟩
 unfold jD at hR
 refine aY (fun sl M1=>(∃o,cQ L.toks "symbol" [.mul] i=some o∧sl= [some (.raw (.ref a)),some (.d (.str o.s))]∧cA M1 a L (i+1) d∧i+1<L.toks.length∧MK [a] M M1)∨cQ L.toks "symbol" [.mul] i=none∧sl= [some (.raw (.ref a)),some (.d .none)]∧M1=M) (fun N hN=> ?_) ?_
 ·refine bL ?_
  refine Bb (l:= [.mul]) (fun R h=>aG rfl h) hL hi (by decide+kernel) (fun RA h=>aJ (aN (aJ (dR (ds:= [.str "*"]) (aV h))))) (fun o M' e h1 h2 k=>hN _ _ (.inl ⟨o,e,rfl,h1,h2,k⟩)) fun e=>hN _ _ (.inr ⟨e,rfl,rfl⟩)
 rintro sl M1 (⟨o,e,rfl,h1,h2,k⟩|⟨e,rfl,rfl⟩)
 ·rw [e]at hR
  refine cJ (oG (bU (aO (aG rfl (aN (Km (bW rfl ?_)))))))
  exact aG rfl (hR M1 h1 h2 k)
 ·rw [e]at hR
  refine cJ (oG (bU (aO (aG rfl (aN (KY (cG rfl ?_)))))))
  refine Bb (l:= [.mod]) (fun R h=>aG rfl h) hL hi (by decide+kernel) (fun RA h=>aJ (aN (aJ (dR (ds:= [.str "mod"]) (aV h))))) (fun o M' e1 h1 h2 k=> ?_) fun e1=> ?_
  ·dsimp only at hR
   rw [e1]at hR
   exact hR M' h1 h2 k
  ·dsimp only at hR
   rw [e1]at hR
   exact hR
theorem ait {P:Program} {w:World} {K:PySem.W.Frag} {mg:Str→Option Value} {base:Heap} {dV:Value} {f:Addr} {fd:FuncData} (F:dw K "product_operator" "LineParser.product_operator" zF dV f fd) (iU:jW P w K mg base "LineParser" "accept" 2 iJ):bM P w K mg base CX0 3 f fd ["self"] (dO K vf):=
 F.data Zw ae9 U0 (fun cdv A outer s H E hg hr=>
  (aR (bx (i:=1) Zw.nd rfl (by first|exact Or.inl rfl|exact Or.inr rfl) (iU.de hg (hr.mono (by decide)) (au 0) (aq aK (aq (dG (aq aK aM)) aM))))
   (aW (b_ (n_ (bJ tM (au 1) fY (nomark _)) (iU.de hg (hr.mono (by decide)) (au 0) (aq aK (aq (dG (aq aK aM)) aM))) (au 1)))))) ae6
def qJ (k:PK) (n:Nat):fV:=fun xs M R RX=> ∃(a:Addr) (L:LP) (i:Nat) (d:Int) (r:Except Int (Ex×Nat)),xs= [.raw (.ref a)]∧cA M a L i d∧i<L.toks.length∧pP L.nm L.toks n k d i=some r∧
 (∀c M',r= .error c→MK [a] M M'→RX "SyntaxProblem" (qR L c) M')∧ ∀e j M',r= .ok (e,j)→cA M' a L j d→j<L.toks.length→MK [a] M M'→R (.d e.d) M'
theorem vp (k:PK): ∀xs M R RX,¬qJ k 0 xs M R RX:=by
 rintro xs M R RX ⟨a,L,i,d,r,rfl,_,_,h,_⟩
 cases k<;>cases h
theorem vq (k:PK) (n:Nat): ∀xs M R RX,qJ k n xs M R RX→xs.length=1:=by
 rintro xs M R RX ⟨a,L,i,d,r,rfl,_⟩
 rfl
abbrev lV (n:Nat):fV:=qJ .expr n
abbrev sJ (n:Nat):fV:=qJ .disj n
abbrev rB (n:Nat):fV:=qJ .conj n
abbrev oW (n:Nat):fV:=qJ .neg n
abbrev tK (n:Nat):fV:=qJ .cmp n
abbrev rD (n:Nat):fV:=qJ .add n
abbrev qW (n:Nat):fV:=qJ .prod n
abbrev o8 (n:Nat):fV:=qJ .fac n
theorem j6 {k:PK} {n:Nat} {m:Str} {Ex_:XD} {sl:Slots} {M:Mem} {R:KD} {a:Addr} {L:LP} {i:Nat} {d:Int} {B:Hp} {r:Except Int (Ex×Nat)} (e:sl[0]? =some (some (.wb (.raw (.ref a)) B))) (hL:cA M a L i d) (hi:i<L.toks.length) (hm:(pJ L i d).lookup m=none) (hp:pP L.nm L.toks n k d i=some r)
  (hx: ∀c M',r= .error c→MK [a] M M'→Ex_ "SyntaxProblem" (qR L c) sl M') (hk: ∀e j M',r= .ok (e,j)→cA M' a L j d→j<L.toks.length→MK [a] M M'→R (.d e.d) M'):fu Ex_ "LineParser" m (qJ k n) (bV 0) aH sl M R:=
 fL e (gH hL.obj ⟨hm,⟨a,L,i,d,r,rfl,hL,hi,hp,hx,hk⟩⟩)
theorem Gg {ts:List Tk} {kind:Str} {o:Op} {i:Nat}:(dU ts kind o.s i→cQ ts kind [o] i=some o)∧(¬dU ts kind o.s i→cQ ts kind [o] i=none):=by
 constructor
 ·rintro⟨h1,h2⟩
  unfold cQ
  rw [if_pos h1]
  show(match decide (o.s=(tk ts i).text)with|true=>some o|false=>none)=some o
  rw [decide_eq_true h2.symm]
 ·intro h
  refine Lw.mpr fun z=>h ⟨z.1,?_⟩
  exact List.mem_singleton.mp z.2
theorem adu {kind x:Str} {sl:Slots} {M:Mem} {RB:KB} {a:Addr} {L:LP} {i:Nat} {d:Int} {B:Hp} (e:sl[0]? =some (some (.wb (.raw (.ref a)) B))) (hL:cA M a L i d) (hi:i<L.toks.length) (hne:kind≠ "end")
  (hy:dU L.toks kind x i→ ∀M',cA M' a L (i+1) d→i+1<L.toks.length→MK [a] M M'→RB false M') (hn: ¬dU L.toks kind x i→RB true M):dB (aA mQ (iZ "LineParser" "accept" iJ (bV 0) (aj (dC (.d (.str kind))) (aj (dTup (aj (dC (.d (.str x))) aH)) aH))) (dC (.d .none))) sl M RB:=by
 refine bU (aO ?_)
 refine fL e (gH hL.obj ⟨rfl,aJ (aN (aJ ?_))⟩)
 refine dR (ds:= [.str x]) ?_
 refine aV ⟨a,L,i,d,kind,[x],rfl,hL,hi,fun⟨h1,h2⟩ M' h3 k3=> ?_,fun h=> ?_⟩
 ·have h2:=List.mem_singleton.mp h2
  exact aN (Km (hy ⟨h1,h2⟩ M' h3 (hL.next hi (by rw [h1];exact hne)) k3))
 ·exact aN (KY (hn fun z=>h ⟨z.1,List.mem_singleton.mpr z.2⟩))
def pq:Option Op→PyData
 |none=> .none
 |some o=> .str o.s
def uQ (M:Mem) (a:Addr) (L:LP) (d:Int) (q:Option Op) (j:Nat):Prop:=match q with
 |some _=>cA M a L (j+1) d∧j+1<L.toks.length
 |none=>cA M a L j d∧j<L.toks.length
theorem nZ {r:PRs} {f:Ex→Nat→PRs} {z r1:Except Int (Ex×Nat)} {c:Int} (h:r.then f=some z) (hr:r=some r1) (e:r1= .error c):z= .error c:=by
 subst e
 rw [hr]at h
 exact(Option.some.inj h).symm
theorem nJ {r:PRs} {f:Ex→Nat→PRs} {z r1:Except Int (Ex×Nat)} {e:Ex} {j:Nat} (h:r.then f=some z) (hr:r=some r1) (q:r1= .ok (e,j)):f e j=some z:=by
 subst q
 rw [hr]at h
 exact h
theorem ni {r:PRs} {f:Ex→Nat→PRs} {z:Except Int (Ex×Nat)} (h:r.then f=some z): ∃r1,r=some r1:=by
 cases r with
 |none=>cases h
 |some r1=>exact⟨r1,rfl⟩
abbrev tG:Stmt:=j_ 33 7
abbrev Zq:List Str:= ["self","condition","first","found"]
theorem Bt:FnScope Zq ["self"] (defScope tG):=⟨rfl,rfl,rfl,by decide+kernel,rfl,by decide+kernel,by decide+kernel⟩
def Ut (n:Nat) (Ex:XD):bK:=(aQ (gW (fu Ex "LineParser" "enter" qP (bV 0) aH))
 (aQ (bZ (dB (aA kZ (iZ "LineParser" "accept" iJ (bV 0) (aj (dC (.d (.str "word"))) (aj (dTup (aj (dC (.d (.str "if"))) aH)) aH))) (dC (.d .none)))) (aQ (aZ 1 (fu Ex "LineParser" "expression" (lV n) (bV 0) aH))
 (aQ (gW (fu Ex "LineParser" "take" mX (bV 0) (aj (dC (.d (.str "word"))) (aj (dC (.d (.str "then"))) aH))))
 (aQ (aZ 2 (fu Ex "LineParser" "expression" (lV n) (bV 0) aH))
 (aQ (gW (fu Ex "LineParser" "take" mX (bV 0) (aj (dC (.d (.str "word"))) (aj (dC (.d (.str "else"))) aH))))
 (aZ 3 (dTup (aj (dC (.d (.str "if"))) (aj (ao 1) (aj (ao 2) (aj (fu Ex "LineParser" "expression" (lV n) (bV 0) aH) aH)))))))))) (aZ 3 (fu Ex "LineParser" "disjunction" (sJ n) (bV 0) aH)))
 (aQ (pF "LineParser" "depth" (fun i j=>i-j) (bV 0) (dC (.d (.int 1))))
 (bO (ao 3)))))
theorem agp: ∀xs M R RX,¬lV 0 xs M R RX:=vp .expr
theorem agD (n:Nat): ∀xs M R RX,lV n xs M R RX→xs.length=1:=vq .expr n
theorem acM (n:Nat): ∀xs M R RX,lV (n+1) xs M R RX→ ∀B,Ut n (fun n fs sl M'=>iY 0 B sl∧RX n fs M') {nx:=fun _ M'=>R (.d .none) M',rt:=R} (jx 0 B (dD Zq xs)) M:=by
 rintro xs M R RX ⟨a,L,i,d,r,rfl,hL,hi,hp,hX,hR⟩ B
 have hp:jc L.toks d i (if dU L.toks "word" "if" i then
   (pP L.nm L.toks n .expr (d+1) (i+1)).then fun c i=>cX L.toks "word" "then" i fun i=>(pP L.nm L.toks n .expr (d+1) i).then fun a i=>cX L.toks "word" "else" i fun i=>(pP L.nm L.toks n .expr (d+1) i).then fun b i=>dh (.ite c a b) i
  else pP L.nm L.toks n .disj (d+1) i)=some r:=hp
 unfold jc at hp
 
 refine aY (fun sl M1=>sl= [some (.wb (.raw (.ref a)) B),none,none,none]∧ ¬30<d+1∧cA M1 a L i (d+1)∧MK [a] M M1) (fun N hN=> ?_) ?_
 ·refine pB (fL rfl (gH hL.obj ⟨rfl,?_⟩))
  refine⟨a,L,i,d,rfl,hL,hi,fun c M1 h1 k1=>hN _ _ ⟨rfl,c,h1,k1⟩,fun c M1 k1=>⟨⟨_,rfl⟩,?_⟩⟩
  rw [if_pos c]at hp
  exact hX _ M1 (Option.some.inj hp).symm k1
 rintro sl M1 ⟨rfl,hd,hL1,k1⟩
 rw [if_neg hd]at hp
 
 refine aY (fun sl M2=> ∃(e:Ex) (j:Nat) (DK ou:Option DV),sl= [some (.wb (.raw (.ref a)) B),DK,ou,some (.d e.d)]∧r= .ok (e,j)∧cA M2 a L j (d+1)∧j<L.toks.length∧MK [a] M M2) (fun N hN=> ?_) ?_
 ·refine dN (Ft (B:=B) rfl hL1 hi (by decide+kernel) (fun h M2 hL2 hi2 k2=> ?_) fun h=> ?_)
  ·rw [if_pos h]at hp
   refine cG rfl ?_
   obtain⟨r1,hp1,h1⟩:=Bm hp
   refine aY (fun sl M3=> ∃(c:Ex) (j:Nat) (ou lN:Option DV),sl= [some (.wb (.raw (.ref a)) B),some (.d c.d),ou,lN]∧r1= .ok (c,j)∧cA M3 a L j (d+1)∧j<L.toks.length∧MK [a] M M3) (fun N3 hN3=> ?_) ?_
   ·refine bL (j6 rfl hL2 hi2 rfl hp1 (fun c M3 e k3=>⟨⟨_,rfl⟩,?_⟩) fun c j M3 e h3 hj k3=>hN3 _ _ ⟨c,j,_,_,rfl,e,h3,hj,(k1.trans k2).trans k3⟩)
    rcases h1 with⟨c',e1,e2⟩|⟨_,_,e1,_⟩
    ·rw [e1]at e
     cases e
     exact hX _ M3 e2 ((k1.trans k2).trans k3)
    ·rw [e1]at e
     cases e
   rintro sl M3 ⟨c,j,ou,lN,rfl,e,hL3,hj,k3⟩
   subst e
   rcases h1 with⟨_,e1,_⟩|⟨_,_,e1,hp2⟩
   ·cases e1
   cases e1
   unfold cX at hp2
   refine aY (fun sl M4=> ∃(ou lN:Option DV),sl= [some (.wb (.raw (.ref a)) B),some (.d c.d),ou,lN]∧dU L.toks "word" "then" j∧cA M4 a L (j+1) (d+1)∧j+1<L.toks.length∧MK [a] M M4) (fun N4 hN4=> ?_) ?_
   ·refine pB (Cy (B:=B) rfl hL3 hj (by decide+kernel) (fun q=>⟨⟨_,rfl⟩,?_⟩) fun b M4 q h4 hj4 k4=>hN4 _ _ ⟨_,_,rfl,q,h4,hj4,k3.trans k4⟩)
    rw [if_neg q]at hp2
    exact hX _ M3 (Option.some.inj hp2).symm k3
   rintro sl M4 ⟨ou,lN,rfl,q,hL4,hj4,k4⟩
   rw [if_pos q]at hp2
   obtain⟨r2,hp3,h2⟩:=Bm hp2
   refine aY (fun sl M5=> ∃(x:Ex) (j:Nat) (lN:Option DV),sl= [some (.wb (.raw (.ref a)) B),some (.d c.d),some (.d x.d),lN]∧r2= .ok (x,j)∧cA M5 a L j (d+1)∧j<L.toks.length∧MK [a] M M5) (fun N5 hN5=> ?_) ?_
   ·refine bL (j6 rfl hL4 hj4 rfl hp3 (fun c M3 e k3=>⟨⟨_,rfl⟩,?_⟩) fun c j M3 e h3 hj k3=>hN5 _ _ ⟨c,j,_,rfl,e,h3,hj,k4.trans k3⟩)
    rcases h2 with⟨c',e1,e2⟩|⟨_,_,e1,_⟩
    ·rw [e1]at e
     cases e
     exact hX _ M3 e2 (k4.trans k3)
    ·rw [e1]at e
     cases e
   rintro sl M5 ⟨x,j,lN,rfl,e,hL5,hj5,k5⟩
   subst e
   rcases h2 with⟨_,e1,_⟩|⟨_,_,e1,hp4⟩
   ·cases e1
   cases e1
   refine aY (fun sl M6=> ∃(lN:Option DV),sl= [some (.wb (.raw (.ref a)) B),some (.d c.d),some (.d x.d),lN]∧dU L.toks "word" "else" j∧cA M6 a L (j+1) (d+1)∧j+1<L.toks.length∧MK [a] M M6) (fun N6 hN6=> ?_) ?_
   ·refine pB (Cy (B:=B) rfl hL5 hj5 (by decide+kernel) (fun q=>⟨⟨_,rfl⟩,?_⟩) fun b M6 q h6 hj6 k6=>hN6 _ _ ⟨_,rfl,q,h6,hj6,k5.trans k6⟩)
    rw [if_neg q]at hp4
    exact hX _ M5 (Option.some.inj hp4).symm k5
   rintro sl M6 ⟨lN,rfl,q,hL6,hj6,k6⟩
   rw [if_pos q]at hp4
   obtain⟨r3,hp5,h3⟩:=Bm hp4
   refine bL (aJ (aN (aJ (aG rfl (aJ (aG rfl (aJ ?_)))))))
   refine j6 (B:=B) rfl hL6 hj6 rfl hp5 (fun c M7 e k7=>⟨⟨_,rfl⟩,?_⟩) fun y j M7 e hL7 hj7 k7=> ?_
   ·rcases h3 with⟨c',e1,e2⟩|⟨_,_,e1,_⟩
    ·rw [e1]at e
     cases e
     exact hX _ M7 e2 (k6.trans k7)
    ·rw [e1]at e
     cases e
   ·rcases h3 with⟨_,e1,_⟩|⟨_,_,e1,hp6⟩
    ·rw [e1]at e
     cases e
    rw [e1]at e
    cases e
    refine aV ?_
    refine dR (ds:= [.str "if",c.d,x.d,y.d]) ?_
    exact hN _ _ ⟨.ite c x y,j,_,_,rfl,(Option.some.inj hp6).symm,hL7,hj7,k6.trans k7⟩
  ·rw [if_neg h]at hp
   refine bW rfl ?_
   refine bL (j6 (B:=B) rfl hL1 hi rfl hp (fun c M3 e k3=>⟨⟨_,rfl⟩,hX _ M3 e (k1.trans k3)⟩) fun e j M3 e3 h3 hj k3=>hN _ _ ⟨e,j,_,_,rfl,e3,h3,hj,k1.trans k3⟩)
 rintro sl M2 ⟨e,j,DK,ou,rfl,er,hL2,hj,k2⟩
 refine sq (Gv (B:=B) rfl hL2 fun M3 hL3 k3=> ?_)
 dsimp only
 refine cJ (aG rfl ?_)
 refine hR e j M3 er ?_ hj (k2.trans k3)
 have ed:d+1-1=d:=by omega
 rw [←ed]
 exact hL3
theorem ahz (n:Nat) {P:Program} {w:World} {K:PySem.W.Frag} {mg:Str→Option Value} {base:Heap} {dV:Value} {f:Addr} {fd:FuncData} (F:dw K "expression" "LineParser.expression" tG dV f fd) (uH:dX P w K mg base "LineParser" "enter" 4 qP) (iU:jW P w K mg base "LineParser" "accept" 2 iJ) (rQ:dX P w K mg base "LineParser" "expression" (5+n) (lV n)) (uI:dX P w K mg base "LineParser" "take" 4 mX) (ZK:dX P w K mg base "LineParser" "disjunction" (5+n) (sJ n)) (lX:fB K "LineParser" "depth"):bM P w K mg base (L2.CX P w) (5+n+1) f fd ["self"] (gA K (lV (n+1))):=
 F.dataX Bt (agD (n+1)) 0 (Ut n) (fun cdv A outer s H E Ex hg hr tk xo hpo=>
  (aR (ju (uH.de0 tk xo hg (hr.mono (by omega)) (cM 0)))
   (aR (cP (bJ oY (iU.de hg (hr.mono (by omega)) (cM 0) (aq aK (aq (dG (aq aK aM)) aM))) fY (nomark _)) (aR (bx (i:=1) Bt.nd rfl (by first|exact Or.inl rfl|exact Or.inr rfl) (rQ.de0 tk xo hg (hr.mono (Nat.le_refl _)) (cM 0)))
   (aR (ju (uI.de tk xo hg (hr.mono (by omega)) (cM 0) (aq aK (aq aK aM))))
   (aR (bx (i:=2) Bt.nd rfl (by first|exact Or.inl rfl|exact Or.inr rfl) (rQ.de0 tk xo hg (hr.mono (Nat.le_refl _)) (cM 0)))
   (aR (ju (uI.de tk xo hg (hr.mono (by omega)) (cM 0) (aq aK (aq aK aM))))
   (aW (bx (i:=3) Bt.nd rfl (by first|exact Or.inl rfl|exact Or.inr rfl) (dG (aq aK (aq (au 1) (aq (au 2) (aq (rQ.de0 tk xo hg (hr.mono (Nat.le_refl _)) (cM 0)) aM))))))))))) (aW (bx (i:=3) Bt.nd rfl (by first|exact Or.inl rfl|exact Or.inr rfl) (ZK.de0 tk xo hg (hr.mono (Nat.le_refl _)) (cM 0)))))
   (aR (uZ lX (cM 0) aP KQ)
   (aW (b_ (au 3))))))) (acM n)
abbrev sU:Stmt:=j_ 33 8
abbrev Uy:List Str:= ["self","found"]
theorem Kc:FnScope Uy ["self"] (defScope sU):=⟨rfl,rfl,rfl,by decide+kernel,rfl,by decide+kernel,by decide+kernel⟩
def YX (n:Nat) (Ex:XD):bK:=(aQ (aZ 1 (fu Ex "LineParser" "conjunction" (rB n) (bV 0) aH))
 (aQ (pC (dB (aA kZ (iZ "LineParser" "accept" iJ (bV 0) (aj (dC (.d (.str "word"))) (aj (dTup (aj (dC (.d (.str "or"))) aH)) aH))) (dC (.d .none)))) (aZ 1 (dTup (aj (dC (.d (.str "or"))) (aj (ao 1) (aj (fu Ex "LineParser" "conjunction" (rB n) (bV 0) aH) aH))))))
 (bO (ao 1))))
theorem afh: ∀xs M R RX,¬sJ 0 xs M R RX:=vp .disj
theorem aiA (n:Nat): ∀xs M R RX,sJ n xs M R RX→xs.length=1:=vq .disj n
theorem abV (n:Nat): ∀xs M R RX,sJ (n+1) xs M R RX→ ∀B,YX n (fun n fs sl M'=>iY 0 B sl∧RX n fs M') {nx:=fun _ M'=>R (.d .none) M',rt:=R} (jx 0 B (dD Uy xs)) M:=by
 rintro xs M R RX ⟨a,L,i,d,r,rfl,hL,hi,hp,hX,hR⟩ B
 have hp:(pP L.nm L.toks n .conj d i).then (fun a i=>fG (cQ L.toks "word" [.or]) (pP L.nm L.toks n .conj d) L.toks.length a i)=some r:=hp
 obtain⟨r1,hp1⟩:=ni hp
 refine aY (fun sl M1=> ∃(e:Ex) (j:Nat),sl= [some (.wb (.raw (.ref a)) B),some (.d e.d)]∧r1= .ok (e,j)∧cA M1 a L j d∧j<L.toks.length∧MK [a] M M1) (fun N hN=> ?_) ?_
 ·refine bL (j6 (B:=B) rfl hL hi rfl hp1 (fun c M1 e k1=>⟨⟨_,rfl⟩,hX _ M1 (nZ hp hp1 e) k1⟩) fun e j M1 q h1 hj k1=>hN _ _ ⟨e,j,rfl,q,h1,hj,k1⟩)
 rintro sl M1 ⟨e1,j1,rfl,q1,hL1,hj1,k1⟩
 have hp2:=nJ hp hp1 q1
 refine aY (fun sl M2=> ∃(e:Ex) (j:Nat),sl= [some (.wb (.raw (.ref a)) B),some (.d e.d)]∧r= .ok (e,j)∧cA M2 a L j d∧j<L.toks.length∧MK [a] M M2) (fun N hN=> ?_) ?_
 ·refine⟨fun w sl M2=> ∃(e:Ex) (j:Nat),sl= [some (.wb (.raw (.ref a)) B),some (.d e.d)]∧fG (cQ L.toks "word" [.or]) (pP L.nm L.toks n .conj d) w e j=some r∧cA M2 a L j d∧j<L.toks.length∧MK [a] M M2,⟨_,e1,j1,rfl,hp2,hL1,hj1,k1⟩,?_⟩
  rintro w sl M2 ⟨e,j,rfl,hc,hL2,hj,k2⟩
  cases w with
  |zero=>cases hc
  |succ w=>
   unfold fG at hc
   refine Ft (B:=B) rfl hL2 hj (by decide+kernel) (fun h M3 hL3 hj3 k3=> ?_) fun h=> ?_
   ·rw [(Gg (o:= .or)).1 h]at hc
    dsimp only at hc
    obtain⟨r3,hp3⟩:=ni hc
    refine cG rfl ?_
    refine bL (aJ (aN (aJ (aG rfl (aJ ?_)))))
    refine j6 (B:=B) rfl hL3 hj3 rfl hp3 (fun c M4 e k4=>⟨⟨_,rfl⟩,hX _ M4 (nZ hc hp3 e) ((k2.trans k3).trans k4)⟩) fun b j4 M4 q h4 hj4 k4=> ?_
    have hc2:=nJ hc hp3 q
    refine aV ?_
    refine dR (ds:= [.str "or",e.d,b.d]) ?_
    exact⟨w,Nat.lt_succ_self _,.bin .or e b,j4,rfl,hc2,h4,hj4,(k2.trans k3).trans k4⟩
   ·rw [(Gg (o:= .or)).2 h]at hc
    exact bW rfl (hN _ _ ⟨e,j,rfl,(Option.some.inj hc).symm,hL2,hj,k2⟩)
 rintro sl M2 ⟨e,j,rfl,q,hL2,hj,k2⟩
 exact cJ (aG rfl (hR e j M2 q hL2 hj k2))
theorem agP (n:Nat) {P:Program} {w:World} {K:PySem.W.Frag} {mg:Str→Option Value} {base:Heap} {dV:Value} {f:Addr} {fd:FuncData} (F:dw K "disjunction" "LineParser.disjunction" sU dV f fd) (Nt:dX P w K mg base "LineParser" "conjunction" (5+n) (rB n)) (iU:jW P w K mg base "LineParser" "accept" 2 iJ):bM P w K mg base (L2.CX P w) (5+n+1) f fd ["self"] (gA K (sJ (n+1))):=
 F.dataX Kc (aiA (n+1)) 0 (YX n) (fun cdv A outer s H E Ex hg hr tk xo hpo=>
  (aR (bx (i:=1) Kc.nd rfl (by first|exact Or.inl rfl|exact Or.inr rfl) (Nt.de0 tk xo hg (hr.mono (Nat.le_refl _)) (cM 0)))
   (aR (sW hpo (bJ oY (iU.de hg (hr.mono (by omega)) (cM 0) (aq aK (aq (dG (aq aK aM)) aM))) fY (nomark _)) (aW (bx (i:=1) Kc.nd rfl (by first|exact Or.inl rfl|exact Or.inr rfl) (dG (aq aK (aq (au 1) (aq (Nt.de0 tk xo hg (hr.mono (Nat.le_refl _)) (cM 0)) aM)))))))
   (aW (b_ (au 1)))))) (abV n)
abbrev tW:Stmt:=j_ 33 9
abbrev Y8:List Str:= ["self","found"]
theorem LR:FnScope Y8 ["self"] (defScope tW):=⟨rfl,rfl,rfl,by decide+kernel,rfl,by decide+kernel,by decide+kernel⟩
def XJ (n:Nat) (Ex:XD):bK:=(aQ (aZ 1 (fu Ex "LineParser" "negation" (oW n) (bV 0) aH))
 (aQ (pC (dB (aA kZ (iZ "LineParser" "accept" iJ (bV 0) (aj (dC (.d (.str "word"))) (aj (dTup (aj (dC (.d (.str "and"))) aH)) aH))) (dC (.d .none)))) (aZ 1 (dTup (aj (dC (.d (.str "and"))) (aj (ao 1) (aj (fu Ex "LineParser" "negation" (oW n) (bV 0) aH) aH))))))
 (bO (ao 1))))
theorem agA: ∀xs M R RX,¬rB 0 xs M R RX:=vp .conj
theorem acB (n:Nat): ∀xs M R RX,rB n xs M R RX→xs.length=1:=vq .conj n
theorem ahf (n:Nat): ∀xs M R RX,rB (n+1) xs M R RX→ ∀B,XJ n (fun n fs sl M'=>iY 0 B sl∧RX n fs M') {nx:=fun _ M'=>R (.d .none) M',rt:=R} (jx 0 B (dD Y8 xs)) M:=by
 rintro xs M R RX ⟨a,L,i,d,r,rfl,hL,hi,hp,hX,hR⟩ B
 have hp:(pP L.nm L.toks n .neg d i).then (fun a i=>fG (cQ L.toks "word" [.and]) (pP L.nm L.toks n .neg d) L.toks.length a i)=some r:=hp
 obtain⟨r1,hp1⟩:=ni hp
 refine aY (fun sl M1=> ∃(e:Ex) (j:Nat),sl= [some (.wb (.raw (.ref a)) B),some (.d e.d)]∧r1= .ok (e,j)∧cA M1 a L j d∧j<L.toks.length∧MK [a] M M1) (fun N hN=> ?_) ?_
 ·refine bL (j6 (B:=B) rfl hL hi rfl hp1 (fun c M1 e k1=>⟨⟨_,rfl⟩,hX _ M1 (nZ hp hp1 e) k1⟩) fun e j M1 q h1 hj k1=>hN _ _ ⟨e,j,rfl,q,h1,hj,k1⟩)
 rintro sl M1 ⟨e1,j1,rfl,q1,hL1,hj1,k1⟩
 have hp2:=nJ hp hp1 q1
 refine aY (fun sl M2=> ∃(e:Ex) (j:Nat),sl= [some (.wb (.raw (.ref a)) B),some (.d e.d)]∧r= .ok (e,j)∧cA M2 a L j d∧j<L.toks.length∧MK [a] M M2) (fun N hN=> ?_) ?_
 ·refine⟨fun w sl M2=> ∃(e:Ex) (j:Nat),sl= [some (.wb (.raw (.ref a)) B),some (.d e.d)]∧fG (cQ L.toks "word" [.and]) (pP L.nm L.toks n .neg d) w e j=some r∧cA M2 a L j d∧j<L.toks.length∧MK [a] M M2,⟨_,e1,j1,rfl,hp2,hL1,hj1,k1⟩,?_⟩
  rintro w sl M2 ⟨e,j,rfl,hc,hL2,hj,k2⟩
  cases w with
  |zero=>cases hc
  |succ w=>
   unfold fG at hc
   refine Ft (B:=B) rfl hL2 hj (by decide+kernel) (fun h M3 hL3 hj3 k3=> ?_) fun h=> ?_
   ·rw [(Gg (o:= .and)).1 h]at hc
    dsimp only at hc
    obtain⟨r3,hp3⟩:=ni hc
    refine cG rfl ?_
    refine bL (aJ (aN (aJ (aG rfl (aJ ?_)))))
    refine j6 (B:=B) rfl hL3 hj3 rfl hp3 (fun c M4 e k4=>⟨⟨_,rfl⟩,hX _ M4 (nZ hc hp3 e) ((k2.trans k3).trans k4)⟩) fun b j4 M4 q h4 hj4 k4=> ?_
    have hc2:=nJ hc hp3 q
    refine aV ?_
    refine dR (ds:= [.str "and",e.d,b.d]) ?_
    exact⟨w,Nat.lt_succ_self _,.bin .and e b,j4,rfl,hc2,h4,hj4,(k2.trans k3).trans k4⟩
   ·rw [(Gg (o:= .and)).2 h]at hc
    exact bW rfl (hN _ _ ⟨e,j,rfl,(Option.some.inj hc).symm,hL2,hj,k2⟩)
 rintro sl M2 ⟨e,j,rfl,q,hL2,hj,k2⟩
 exact cJ (aG rfl (hR e j M2 q hL2 hj k2))
theorem aiw (n:Nat) {P:Program} {w:World} {K:PySem.W.Frag} {mg:Str→Option Value} {base:Heap} {dV:Value} {f:Addr} {fd:FuncData} (F:dw K "conjunction" "LineParser.conjunction" tW dV f fd) (DP:dX P w K mg base "LineParser" "negation" (5+n) (oW n)) (iU:jW P w K mg base "LineParser" "accept" 2 iJ):bM P w K mg base (L2.CX P w) (5+n+1) f fd ["self"] (gA K (rB (n+1))):=
 F.dataX LR (acB (n+1)) 0 (XJ n) (fun cdv A outer s H E Ex hg hr tk xo hpo=>
  (aR (bx (i:=1) LR.nd rfl (by first|exact Or.inl rfl|exact Or.inr rfl) (DP.de0 tk xo hg (hr.mono (Nat.le_refl _)) (cM 0)))
   (aR (sW hpo (bJ oY (iU.de hg (hr.mono (by omega)) (cM 0) (aq aK (aq (dG (aq aK aM)) aM))) fY (nomark _)) (aW (bx (i:=1) LR.nd rfl (by first|exact Or.inl rfl|exact Or.inr rfl) (dG (aq aK (aq (au 1) (aq (DP.de0 tk xo hg (hr.mono (Nat.le_refl _)) (cM 0)) aM)))))))
   (aW (b_ (au 1)))))) (ahf n)
abbrev tH:Stmt:=j_ 33 10
abbrev UW:List Str:= ["self","found"]
theorem Uo:FnScope UW ["self"] (defScope tH):=⟨rfl,rfl,rfl,by decide+kernel,rfl,by decide+kernel,by decide+kernel⟩
def WT (n:Nat) (Ex:XD):bK:=(aQ (bZ (dB (aA mQ (iZ "LineParser" "accept" iJ (bV 0) (aj (dC (.d (.str "word"))) (aj (dTup (aj (dC (.d (.str "not"))) aH)) aH))) (dC (.d .none)))) (bO (fu Ex "LineParser" "comparison" (tK n) (bV 0) aH)) cV)
 (aQ (gW (fu Ex "LineParser" "enter" qP (bV 0) aH))
 (aQ (aZ 1 (dTup (aj (dC (.d (.str "not"))) (aj (fu Ex "LineParser" "negation" (oW n) (bV 0) aH) aH))))
 (aQ (pF "LineParser" "depth" (fun i j=>i-j) (bV 0) (dC (.d (.int 1))))
 (bO (ao 1))))))
theorem acJ: ∀xs M R RX,¬oW 0 xs M R RX:=vp .neg
theorem ac1 (n:Nat): ∀xs M R RX,oW n xs M R RX→xs.length=1:=vq .neg n
theorem ad_ (n:Nat): ∀xs M R RX,oW (n+1) xs M R RX→ ∀B,WT n (fun n fs sl M'=>iY 0 B sl∧RX n fs M') {nx:=fun _ M'=>R (.d .none) M',rt:=R} (jx 0 B (dD UW xs)) M:=by
 rintro xs M R RX ⟨a,L,i,d,r,rfl,hL,hi,hp,hX,hR⟩ B
 have hp:(if dU L.toks "word" "not" i then jc L.toks d (i+1) ((pP L.nm L.toks n .neg (d+1) (i+1)).then fun a i=>dh (.un .not a) i)else pP L.nm L.toks n .cmp d i)=some r:=hp
 refine aY (fun sl M1=>sl= [some (.wb (.raw (.ref a)) B),none]∧dU L.toks "word" "not" i∧cA M1 a L (i+1) d∧i+1<L.toks.length∧MK [a] M M1) (fun N hN=> ?_) ?_
 ·refine dN (adu (B:=B) rfl hL hi (by decide+kernel) (fun h M1 h1 hj k=>bW rfl (hN _ _ ⟨rfl,h,h1,hj,k⟩)) fun h=> ?_)
  rw [if_neg h]at hp
  refine cG rfl (cJ ?_)
  exact j6 (B:=B) rfl hL hi rfl hp (fun c M1 e k1=>⟨⟨_,rfl⟩,hX _ M1 e k1⟩) fun e j M1 q h1 hj k1=>hR e j M1 q h1 hj k1
 rintro sl M1 ⟨rfl,h,hL1,hi1,k1⟩
 rw [if_pos h]at hp
 unfold jc at hp
 refine aY (fun sl M2=>sl= [some (.wb (.raw (.ref a)) B),none]∧ ¬30<d+1∧cA M2 a L (i+1) (d+1)∧MK [a] M M2) (fun N hN=> ?_) ?_
 ·refine pB (fL rfl (gH hL1.obj ⟨rfl,?_⟩))
  refine⟨a,L,i+1,d,rfl,hL1,hi1,fun c M2 h2 k2=>hN _ _ ⟨rfl,c,h2,k1.trans k2⟩,fun c M2 k2=>⟨⟨_,rfl⟩,?_⟩⟩
  rw [if_pos c]at hp
  exact hX _ M2 (Option.some.inj hp).symm (k1.trans k2)
 rintro sl M2 ⟨rfl,hd,hL2,k2⟩
 rw [if_neg hd]at hp
 obtain⟨r3,hp3⟩:=ni hp
 refine aY (fun sl M3=> ∃(e:Ex) (j:Nat),sl= [some (.wb (.raw (.ref a)) B),some (.d (Ex.un .not e).d)]∧r3= .ok (e,j)∧cA M3 a L j (d+1)∧j<L.toks.length∧MK [a] M M3) (fun N hN=> ?_) ?_
 ·refine bL (aJ (aN (aJ ?_)))
  refine j6 (B:=B) rfl hL2 hi1 rfl hp3 (fun c M3 e k3=>⟨⟨_,rfl⟩,hX _ M3 (nZ hp hp3 e) (k2.trans k3)⟩) fun e j M3 q h3 hj k3=> ?_
  refine aV ?_
  refine dR (ds:= [.str "not",e.d]) ?_
  exact hN _ _ ⟨e,j,rfl,q,h3,hj,k2.trans k3⟩
 rintro sl M3 ⟨e,j,rfl,q,hL3,hj,k3⟩
 have hp4:=nJ hp hp3 q
 refine sq (Gv (B:=B) rfl hL3 fun M4 hL4 k4=> ?_)
 dsimp only
 refine cJ (aG rfl ?_)
 refine hR _ j M4 (Option.some.inj hp4).symm ?_ hj (k3.trans k4)
 have ed:d+1-1=d:=by omega
 rw [←ed]
 exact hL4
theorem aiz (n:Nat) {P:Program} {w:World} {K:PySem.W.Frag} {mg:Str→Option Value} {base:Heap} {dV:Value} {f:Addr} {fd:FuncData} (F:dw K "negation" "LineParser.negation" tH dV f fd) (iU:jW P w K mg base "LineParser" "accept" 2 iJ) (ZL:dX P w K mg base "LineParser" "comparison" (5+n) (tK n)) (uH:dX P w K mg base "LineParser" "enter" 4 qP) (DP:dX P w K mg base "LineParser" "negation" (5+n) (oW n)) (lX:fB K "LineParser" "depth"):bM P w K mg base (L2.CX P w) (5+n+1) f fd ["self"] (gA K (oW (n+1))):=
 F.dataX Uo (ac1 (n+1)) 0 (WT n) (fun cdv A outer s H E Ex hg hr tk xo hpo=>
  (aR (cP (bJ tM (iU.de hg (hr.mono (by omega)) (cM 0) (aq aK (aq (dG (aq aK aM)) aM))) fY (nomark _)) (aW (b_ (ZL.de0 tk xo hg (hr.mono (Nat.le_refl _)) (cM 0)))) cW)
   (aR (ju (uH.de0 tk xo hg (hr.mono (by omega)) (cM 0)))
   (aR (bx (i:=1) Uo.nd rfl (by first|exact Or.inl rfl|exact Or.inr rfl) (dG (aq aK (aq (DP.de0 tk xo hg (hr.mono (Nat.le_refl _)) (cM 0)) aM))))
   (aR (uZ lX (cM 0) aP KQ)
   (aW (b_ (au 1)))))))) (ad_ n)
abbrev ug:Stmt:=j_ 33 11
abbrev T9:List Str:= ["self","found","operator"]
theorem Lk:FnScope T9 ["self"] (defScope ug):=⟨rfl,rfl,rfl,by decide+kernel,rfl,by decide+kernel,by decide+kernel⟩
def Uz (n:Nat) (Ex:XD):bK:=(aQ (aZ 1 (fu Ex "LineParser" "addition" (rD n) (bV 0) aH))
 (aQ (aZ 2 (iZ "LineParser" "accept" iJ (bV 0) (aj (dC (.d (.str "symbol"))) (aj (dC Ji) aH))))
 (bO (jY (dB (aA mQ (ao 2) (dC (.d .none)))) (ao 1) (dTup (aj (ao 2) (aj (ao 1) (aj (fu Ex "LineParser" "addition" (rD n) (bV 0) aH) aH))))))))
theorem adk: ∀xs M R RX,¬tK 0 xs M R RX:=vp .cmp
theorem aeQ (n:Nat): ∀xs M R RX,tK n xs M R RX→xs.length=1:=vq .cmp n
theorem agM (n:Nat): ∀xs M R RX,tK (n+1) xs M R RX→ ∀B,Uz n (fun n fs sl M'=>iY 0 B sl∧RX n fs M') {nx:=fun _ M'=>R (.d .none) M',rt:=R} (jx 0 B (dD T9 xs)) M:=by
 rintro xs M R RX ⟨a,L,i,d,r,rfl,hL,hi,hp,hX,hR⟩ B
 have hp:(pP L.nm L.toks n .add d i).then (fun a i=>match cQ L.toks "symbol" nY i with
  |none=>dh a i
  |some o=>(pP L.nm L.toks n .add d (i+1)).then fun b i=>dh (.bin o a b) i)=some r:=hp
 obtain⟨r1,hp1⟩:=ni hp
 refine aY (fun sl M1=> ∃(e:Ex) (j:Nat),sl= [some (.wb (.raw (.ref a)) B),some (.d e.d),none]∧r1= .ok (e,j)∧cA M1 a L j d∧j<L.toks.length∧MK [a] M M1) (fun N hN=> ?_) ?_
 ·refine bL (j6 (B:=B) rfl hL hi rfl hp1 (fun c M1 e k1=>⟨⟨_,rfl⟩,hX _ M1 (nZ hp hp1 e) k1⟩) fun e j M1 q h1 hj k1=>hN _ _ ⟨e,j,rfl,q,h1,hj,k1⟩)
 rintro sl M1 ⟨e1,j1,rfl,q1,hL1,hj1,k1⟩
 have hp2:=nJ hp hp1 q1
 refine aY (fun sl M2=>sl= [some (.wb (.raw (.ref a)) B),some (.d e1.d),some (.d (pq (cQ L.toks "symbol" nY j1)))]∧uQ M2 a L d (cQ L.toks "symbol" nY j1) j1∧MK [a] M M2) (fun N hN=> ?_) ?_
 ·refine bL ?_
  refine Bb (l:=nY) (fun R h=>fL (B:=B) rfl h) hL1 hj1 (by decide+kernel) (fun RA h=>aJ (aN (aJ (aN (aV h))))) (fun o M' e1 h1 h2 k=> ?_) fun e1=> ?_
  ·rw [e1]at hN
   exact hN _ _ ⟨rfl,⟨h1,h2⟩,k1.trans k⟩
  ·rw [e1]at hN
   exact hN _ _ ⟨rfl,⟨hL1,hj1⟩,k1⟩
 rintro sl M2 ⟨rfl,hS,k2⟩
 refine cJ (oG (bU (aO (aG rfl (aN ?_)))))
 cases eo:cQ L.toks "symbol" nY j1 with
 |none=>
  rw [eo]at hp2 hS
  refine KY (cG rfl (aG rfl ?_))
  exact hR e1 j1 M2 (Option.some.inj hp2).symm hS.1 hS.2 k2
 |some o=>
  rw [eo]at hp2 hS
  dsimp only at hp2
  obtain⟨r3,hp3⟩:=ni hp2
  refine Km (bW rfl ?_)
  refine aJ (aG rfl (aJ (aG rfl (aJ ?_))))
  refine j6 (B:=B) rfl hS.1 hS.2 rfl hp3 (fun c M3 e k3=>⟨⟨_,rfl⟩,hX _ M3 (nZ hp2 hp3 e) (k2.trans k3)⟩) fun b j M3 q h3 hj k3=> ?_
  refine aV ?_
  refine dR (ds:= [.str o.s,e1.d,b.d]) ?_
  exact hR (.bin o e1 b) j M3 (Option.some.inj (nJ hp2 hp3 q)).symm h3 hj (k2.trans k3)
theorem acD (n:Nat) {P:Program} {w:World} {K:PySem.W.Frag} {mg:Str→Option Value} {base:Heap} {dV:Value} {f:Addr} {fd:FuncData} (F:dw K "comparison" "LineParser.comparison" ug dV f fd) (Nu:dX P w K mg base "LineParser" "addition" (5+n) (rD n)) (iU:jW P w K mg base "LineParser" "accept" 2 iJ) (Nv:ji K mg "COMPARISONS" Ji):bM P w K mg base (L2.CX P w) (5+n+1) f fd ["self"] (gA K (tK (n+1))):=
 F.dataX Lk (aeQ (n+1)) 0 (Uz n) (fun cdv A outer s H E Ex hg hr tk xo hpo=>
  (aR (bx (i:=1) Lk.nd rfl (by first|exact Or.inl rfl|exact Or.inr rfl) (Nu.de0 tk xo hg (hr.mono (Nat.le_refl _)) (cM 0)))
   (aR (bx (i:=2) Lk.nd rfl (by first|exact Or.inl rfl|exact Or.inr rfl) (iU.de hg (hr.mono (by omega)) (cM 0) (aq aK (aq (Nv.de (by rfl)) aM))))
   (aW (b_ (n_ (bJ tM (au 2) fY (nomark _)) (au 1) (dG (aq (au 2) (aq (au 1) (aq (Nu.de0 tk xo hg (hr.mono (Nat.le_refl _)) (cM 0)) aM)))))))))) (agM n)
abbrev rY:Stmt:=j_ 33 12
abbrev Wm:List Str:= ["self","found","operator"]
theorem Dq:FnScope Wm ["self"] (defScope rY):=⟨rfl,rfl,rfl,by decide+kernel,rfl,by decide+kernel,by decide+kernel⟩
def Wc (n:Nat) (Ex:XD):bK:=(aQ (aZ 1 (fu Ex "LineParser" "product" (qW n) (bV 0) aH))
 (aQ (aZ 2 (iZ "LineParser" "accept" iJ (bV 0) (aj (dC (.d (.str "symbol"))) (aj (dTup (aj (dC (.d (.str "+"))) (aj (dC (.d (.str "-"))) aH))) aH))))
 (aQ (pC (dB (aA kZ (ao 2) (dC (.d .none)))) (aQ (aZ 1 (dTup (aj (ao 2) (aj (ao 1) (aj (fu Ex "LineParser" "product" (qW n) (bV 0) aH) aH)))))
 (aZ 2 (iZ "LineParser" "accept" iJ (bV 0) (aj (dC (.d (.str "symbol"))) (aj (dTup (aj (dC (.d (.str "+"))) (aj (dC (.d (.str "-"))) aH))) aH))))))
 (bO (ao 1)))))
theorem ab4: ∀xs M R RX,¬rD 0 xs M R RX:=vp .add
theorem ahH (n:Nat): ∀xs M R RX,rD n xs M R RX→xs.length=1:=vq .add n
theorem ab5 (n:Nat): ∀xs M R RX,rD (n+1) xs M R RX→ ∀B,Wc n (fun n fs sl M'=>iY 0 B sl∧RX n fs M') {nx:=fun _ M'=>R (.d .none) M',rt:=R} (jx 0 B (dD Wm xs)) M:=by
 rintro xs M R RX ⟨a,L,i,d,r,rfl,hL,hi,hp,hX,hR⟩ B
 have hp:(pP L.nm L.toks n .prod d i).then (fun a i=>fG (cQ L.toks "symbol" [.add,.sub]) (pP L.nm L.toks n .prod d) L.toks.length a i)=some r:=hp
 obtain⟨r1,hp1⟩:=ni hp
 have acc: ∀(e:PyData) (o0:Option DV) (M:Mem) (j:Nat) (D:fD),cA M a L j d→j<L.toks.length→(∀M',uQ M' a L d (cQ L.toks "symbol" [.add,.sub] j) j→MK [a] M M'→D.nx [some (.wb (.raw (.ref a)) B),some (.d e),some (.d (pq (cQ L.toks "symbol" [.add,.sub] j)))] M')→
   aZ 2 (iZ "LineParser" "accept" iJ (bV 0) (aj (dC (.d (.str "symbol"))) (aj (dTup (aj (dC (.d (.str "+"))) (aj (dC (.d (.str "-"))) aH))) aH))) D [some (.wb (.raw (.ref a)) B),some (.d e),o0] M:=by
  intro e o0 M j D hL hj hN
  refine bL ?_
  refine Bb (l:= [.add,.sub]) (fun R h=>fL (B:=B) rfl h) hL hj (by decide+kernel) (fun RA h=>aJ (aN (aJ (dR (ds:= [.str "+",.str "-"]) (aV h))))) (fun o M' e1 h1 h2 k=> ?_) fun e1=> ?_
  ·have e2:cQ L.toks "symbol" [.add,.sub] j=some o:=e1
   rw [e2]at hN
   exact hN M' ⟨h1,h2⟩ k
  ·have e2:cQ L.toks "symbol" [.add,.sub] j=none:=e1
   rw [e2]at hN
   exact hN M ⟨hL,hj⟩ (MK.refl _ _)
 refine aY (fun sl M1=> ∃(e:Ex) (j:Nat),sl= [some (.wb (.raw (.ref a)) B),some (.d e.d),none]∧r1= .ok (e,j)∧cA M1 a L j d∧j<L.toks.length∧MK [a] M M1) (fun N hN=> ?_) ?_
 ·refine bL (j6 (B:=B) rfl hL hi rfl hp1 (fun c M1 e k1=>⟨⟨_,rfl⟩,hX _ M1 (nZ hp hp1 e) k1⟩) fun e j M1 q h1 hj k1=>hN _ _ ⟨e,j,rfl,q,h1,hj,k1⟩)
 rintro sl M1 ⟨e1,j1,rfl,q1,hL1,hj1,k1⟩
 have hp2:=nJ hp hp1 q1
 refine aY (fun sl M2=>sl= [some (.wb (.raw (.ref a)) B),some (.d e1.d),some (.d (pq (cQ L.toks "symbol" [.add,.sub] j1)))]∧uQ M2 a L d (cQ L.toks "symbol" [.add,.sub] j1) j1∧MK [a] M M2) (fun N hN=> ?_) ?_
 ·exact acc e1.d none M1 j1 _ hL1 hj1 fun M2 h2 k2=>hN _ _ ⟨rfl,h2,k1.trans k2⟩
 rintro sl M2 ⟨rfl,hS2,k2⟩
 refine aY (fun sl M3=> ∃(e:Ex) (j:Nat),sl= [some (.wb (.raw (.ref a)) B),some (.d e.d),some (.d .none)]∧r= .ok (e,j)∧cA M3 a L j d∧j<L.toks.length∧MK [a] M M3) (fun N hN=> ?_) ?_
 ·refine⟨fun w sl M3=> ∃(e:Ex) (j:Nat),sl= [some (.wb (.raw (.ref a)) B),some (.d e.d),some (.d (pq (cQ L.toks "symbol" [.add,.sub] j)))]∧fG (cQ L.toks "symbol" [.add,.sub]) (pP L.nm L.toks n .prod d) w e j=some r∧uQ M3 a L d (cQ L.toks "symbol" [.add,.sub] j) j∧MK [a] M M3,⟨_,e1,j1,rfl,hp2,hS2,k2⟩,?_⟩
  rintro w sl M3 ⟨e,j,rfl,hc,hS,k3⟩
  cases w with
  |zero=>cases hc
  |succ w=>
   unfold fG at hc
   refine bU (aO (aG rfl (aN ?_)))
   cases eo:cQ L.toks "symbol" [.add,.sub] j with
   |some o=>
    rw [eo]at hc hS
    dsimp only at hc
    obtain⟨r3,hp3⟩:=ni hc
    refine Dt (cG rfl ?_)
    refine aY (fun sl M4=> ∃(b:Ex) (j4:Nat),sl= [some (.wb (.raw (.ref a)) B),some (.d (.tuple [.str o.s,e.d,b.d])),some (.d (.str o.s))]∧r3= .ok (b,j4)∧cA M4 a L j4 d∧j4<L.toks.length∧MK [a] M M4) (fun N4 hN4=> ?_) ?_
    ·refine bL (aJ (aG rfl (aJ (aG rfl (aJ ?_)))))
     refine j6 (B:=B) rfl hS.1 hS.2 rfl hp3 (fun c M4 e k4=>⟨⟨_,rfl⟩,hX _ M4 (nZ hc hp3 e) (k3.trans k4)⟩) fun b j4 M4 q h4 hj4 k4=> ?_
     refine aV ?_
     refine dR (ds:= [.str o.s,e.d,b.d]) ?_
     exact hN4 _ _ ⟨b,j4,rfl,q,h4,hj4,k3.trans k4⟩
    rintro sl M4 ⟨b,j4,rfl,q4,hL4,hj4,k4⟩
    have hc2:=nJ hc hp3 q4
    refine acc _ _ M4 j4 _ hL4 hj4 fun M5 h5 k5=> ?_
    exact⟨w,Nat.lt_succ_self _,.bin o e b,j4,rfl,hc2,h5,k4.trans k5⟩
   |none=>
    rw [eo]at hc hS
    refine Bq (bW rfl ?_)
    exact hN _ _ ⟨e,j,rfl,(Option.some.inj hc).symm,hS.1,hS.2,k3⟩
 rintro sl M3 ⟨e,j,rfl,q,hL3,hj,k3⟩
 exact cJ (aG rfl (hR e j M3 q hL3 hj k3))
theorem adB (n:Nat) {P:Program} {w:World} {K:PySem.W.Frag} {mg:Str→Option Value} {base:Heap} {dV:Value} {f:Addr} {fd:FuncData} (F:dw K "addition" "LineParser.addition" rY dV f fd) (Ny:dX P w K mg base "LineParser" "product" (5+n) (qW n)) (iU:jW P w K mg base "LineParser" "accept" 2 iJ):bM P w K mg base (L2.CX P w) (5+n+1) f fd ["self"] (gA K (rD (n+1))):=
 F.dataX Dq (ahH (n+1)) 0 (Wc n) (fun cdv A outer s H E Ex hg hr tk xo hpo=>
  (aR (bx (i:=1) Dq.nd rfl (by first|exact Or.inl rfl|exact Or.inr rfl) (Ny.de0 tk xo hg (hr.mono (Nat.le_refl _)) (cM 0)))
   (aR (bx (i:=2) Dq.nd rfl (by first|exact Or.inl rfl|exact Or.inr rfl) (iU.de hg (hr.mono (by omega)) (cM 0) (aq aK (aq (dG (aq aK (aq aK aM))) aM))))
   (aR (sW hpo (bJ oY (au 2) fY (nomark _)) (aR (bx (i:=1) Dq.nd rfl (by first|exact Or.inl rfl|exact Or.inr rfl) (dG (aq (au 2) (aq (au 1) (aq (Ny.de0 tk xo hg (hr.mono (Nat.le_refl _)) (cM 0)) aM)))))
   (aW (bx (i:=2) Dq.nd rfl (by first|exact Or.inl rfl|exact Or.inr rfl) (iU.de hg (hr.mono (by omega)) (cM 0) (aq aK (aq (dG (aq aK (aq aK aM))) aM)))))))
   (aW (b_ (au 1))))))) (ab5 n)
abbrev su:Stmt:=j_ 33 13
abbrev Xo:List Str:= ["self","found","operator"]
theorem Bu:FnScope Xo ["self"] (defScope su):=⟨rfl,rfl,rfl,by decide+kernel,rfl,by decide+kernel,by decide+kernel⟩
def TY (n:Nat) (Ex:XD):bK:=(aQ (aZ 1 (fu Ex "LineParser" "factor" (o8 n) (bV 0) aH))
 (aQ (aZ 2 (iZ "LineParser" "product_operator" vf (bV 0) aH))
 (aQ (pC (dB (aA kZ (ao 2) (dC (.d .none)))) (aQ (aZ 1 (dTup (aj (ao 2) (aj (ao 1) (aj (fu Ex "LineParser" "factor" (o8 n) (bV 0) aH) aH)))))
 (aZ 2 (iZ "LineParser" "product_operator" vf (bV 0) aH))))
 (bO (ao 1)))))
theorem acr: ∀xs M R RX,¬qW 0 xs M R RX:=vp .prod
theorem afy (n:Nat): ∀xs M R RX,qW n xs M R RX→xs.length=1:=vq .prod n
theorem ahy (n:Nat): ∀xs M R RX,qW (n+1) xs M R RX→ ∀B,TY n (fun n fs sl M'=>iY 0 B sl∧RX n fs M') {nx:=fun _ M'=>R (.d .none) M',rt:=R} (jx 0 B (dD Xo xs)) M:=by
 rintro xs M R RX ⟨a,L,i,d,r,rfl,hL,hi,hp,hX,hR⟩ B
 have hp:(pP L.nm L.toks n .fac d i).then (fun a i=>fG (jD L.toks) (pP L.nm L.toks n .fac d) L.toks.length a i)=some r:=hp
 obtain⟨r1,hp1⟩:=ni hp
 have acc: ∀(e:PyData) (o0:Option DV) (M:Mem) (j:Nat) (D:fD),cA M a L j d→j<L.toks.length→(∀M',uQ M' a L d (jD L.toks j) j→MK [a] M M'→D.nx [some (.wb (.raw (.ref a)) B),some (.d e),some (.d (pq (jD L.toks j)))] M')→
   aZ 2 (iZ "LineParser" "product_operator" vf (bV 0) aH) D [some (.wb (.raw (.ref a)) B),some (.d e),o0] M:=by
  intro e o0 M j D hL hj hN
  refine bL ?_
  refine fL (B:=B) rfl (gH hL.obj ⟨rfl,?_⟩)
  refine⟨a,L,j,d,rfl,hL,hj,?_⟩
  cases eo:jD L.toks j with
  |some o=>
   rw [eo]at hN
   exact fun M' h1 h2 k=>hN M' ⟨h1,h2⟩ k
  |none=>
   rw [eo]at hN
   exact hN M ⟨hL,hj⟩ (MK.refl _ _)
 refine aY (fun sl M1=> ∃(e:Ex) (j:Nat),sl= [some (.wb (.raw (.ref a)) B),some (.d e.d),none]∧r1= .ok (e,j)∧cA M1 a L j d∧j<L.toks.length∧MK [a] M M1) (fun N hN=> ?_) ?_
 ·refine bL (j6 (B:=B) rfl hL hi rfl hp1 (fun c M1 e k1=>⟨⟨_,rfl⟩,hX _ M1 (nZ hp hp1 e) k1⟩) fun e j M1 q h1 hj k1=>hN _ _ ⟨e,j,rfl,q,h1,hj,k1⟩)
 rintro sl M1 ⟨e1,j1,rfl,q1,hL1,hj1,k1⟩
 have hp2:=nJ hp hp1 q1
 refine aY (fun sl M2=>sl= [some (.wb (.raw (.ref a)) B),some (.d e1.d),some (.d (pq (jD L.toks j1)))]∧uQ M2 a L d (jD L.toks j1) j1∧MK [a] M M2) (fun N hN=> ?_) ?_
 ·exact acc e1.d none M1 j1 _ hL1 hj1 fun M2 h2 k2=>hN _ _ ⟨rfl,h2,k1.trans k2⟩
 rintro sl M2 ⟨rfl,hS2,k2⟩
 refine aY (fun sl M3=> ∃(e:Ex) (j:Nat),sl= [some (.wb (.raw (.ref a)) B),some (.d e.d),some (.d .none)]∧r= .ok (e,j)∧cA M3 a L j d∧j<L.toks.length∧MK [a] M M3) (fun N hN=> ?_) ?_
 ·refine⟨fun w sl M3=> ∃(e:Ex) (j:Nat),sl= [some (.wb (.raw (.ref a)) B),some (.d e.d),some (.d (pq (jD L.toks j)))]∧fG (jD L.toks) (pP L.nm L.toks n .fac d) w e j=some r∧uQ M3 a L d (jD L.toks j) j∧MK [a] M M3,⟨_,e1,j1,rfl,hp2,hS2,k2⟩,?_⟩
  rintro w sl M3 ⟨e,j,rfl,hc,hS,k3⟩
  cases w with
  |zero=>cases hc
  |succ w=>
   unfold fG at hc
   refine bU (aO (aG rfl (aN ?_)))
   cases eo:jD L.toks j with
   |some o=>
    rw [eo]at hc hS
    dsimp only at hc
    obtain⟨r3,hp3⟩:=ni hc
    refine Dt (cG rfl ?_)
    refine aY (fun sl M4=> ∃(b:Ex) (j4:Nat),sl= [some (.wb (.raw (.ref a)) B),some (.d (.tuple [.str o.s,e.d,b.d])),some (.d (.str o.s))]∧r3= .ok (b,j4)∧cA M4 a L j4 d∧j4<L.toks.length∧MK [a] M M4) (fun N4 hN4=> ?_) ?_
    ·refine bL (aJ (aG rfl (aJ (aG rfl (aJ ?_)))))
     refine j6 (B:=B) rfl hS.1 hS.2 rfl hp3 (fun c M4 e k4=>⟨⟨_,rfl⟩,hX _ M4 (nZ hc hp3 e) (k3.trans k4)⟩) fun b j4 M4 q h4 hj4 k4=> ?_
     refine aV ?_
     refine dR (ds:= [.str o.s,e.d,b.d]) ?_
     exact hN4 _ _ ⟨b,j4,rfl,q,h4,hj4,k3.trans k4⟩
    rintro sl M4 ⟨b,j4,rfl,q4,hL4,hj4,k4⟩
    have hc2:=nJ hc hp3 q4
    refine acc _ _ M4 j4 _ hL4 hj4 fun M5 h5 k5=> ?_
    exact⟨w,Nat.lt_succ_self _,.bin o e b,j4,rfl,hc2,h5,k4.trans k5⟩
   |none=>
    rw [eo]at hc hS
    refine Bq (bW rfl ?_)
    exact hN _ _ ⟨e,j,rfl,(Option.some.inj hc).symm,hS.1,hS.2,k3⟩
 rintro sl M3 ⟨e,j,rfl,q,hL3,hj,k3⟩
 exact cJ (aG rfl (hR e j M3 q hL3 hj k3))
theorem ae2 (n:Nat) {P:Program} {w:World} {K:PySem.W.Frag} {mg:Str→Option Value} {base:Heap} {dV:Value} {f:Addr} {fd:FuncData} (F:dw K "product" "LineParser.product" su dV f fd) (DQ:dX P w K mg base "LineParser" "factor" (5+n) (o8 n)) (Iz:jW P w K mg base "LineParser" "product_operator" 3 vf):bM P w K mg base (L2.CX P w) (5+n+1) f fd ["self"] (gA K (qW (n+1))):=
 F.dataX Bu (afy (n+1)) 0 (TY n) (fun cdv A outer s H E Ex hg hr tk xo hpo=>
  (aR (bx (i:=1) Bu.nd rfl (by first|exact Or.inl rfl|exact Or.inr rfl) (DQ.de0 tk xo hg (hr.mono (Nat.le_refl _)) (cM 0)))
   (aR (bx (i:=2) Bu.nd rfl (by first|exact Or.inl rfl|exact Or.inr rfl) (Iz.de0 hg (hr.mono (by omega)) (cM 0)))
   (aR (sW hpo (bJ oY (au 2) fY (nomark _)) (aR (bx (i:=1) Bu.nd rfl (by first|exact Or.inl rfl|exact Or.inr rfl) (dG (aq (au 2) (aq (au 1) (aq (DQ.de0 tk xo hg (hr.mono (Nat.le_refl _)) (cM 0)) aM)))))
   (aW (bx (i:=2) Bu.nd rfl (by first|exact Or.inl rfl|exact Or.inr rfl) (Iz.de0 hg (hr.mono (by omega)) (cM 0))))))
   (aW (b_ (au 1))))))) (ahy n)
abbrev sE:Stmt:=j_ 33 15
abbrev TX:List Str:= ["self","token","found","call"]
theorem yQ:FnScope TX ["self"] (defScope sE):=⟨rfl,rfl,rfl,by decide+kernel,rfl,by decide+kernel,by decide+kernel⟩
def XQ (n:Nat) (Ex:XD):bK:=(aQ (aZ 1 (iZ "LineParser" "peek" oM (bV 0) aH))
 (aQ (bZ (dB (aA (g2 eU) (jK "Token" "kind" (ao 1)) (dC (.d (.str "number"))))) (aQ (pF "LineParser" "index" (fun i j=>i+j) (bV 0) (dC (.d (.int 1))))
 (bO (dTup (aj (dC (.d (.str "int"))) (aj (dCall (g1 KH) (aj (jK "Token" "text" (ao 1)) aH)) aH))))) cV)
 (aQ (bZ (dB (aA (g2 eU) (jK "Token" "kind" (ao 1)) (dC (.d (.str "name"))))) (aQ (bZ (dB (aA (Jd true) (jK "Token" "text" (ao 1)) (jK "LineParser" "names" (bV 0)))) (gW (fu Ex "LineParser" "fail" oA (bV 0) (aj (ao 1) aH))) cV)
 (aQ (pF "LineParser" "index" (fun i j=>i+j) (bV 0) (dC (.d (.int 1))))
 (bO (dTup (aj (dC (.d (.str "name"))) (aj (jK "Token" "text" (ao 1)) aH)))))) cV)
 (aQ (bZ (dB (aA kZ (iZ "LineParser" "accept" iJ (bV 0) (aj (dC (.d (.str "symbol"))) (aj (dTup (aj (dC (.d (.str "-"))) aH)) aH))) (dC (.d .none)))) (aQ (gW (fu Ex "LineParser" "enter" qP (bV 0) aH))
 (aQ (aZ 2 (dTup (aj (dC (.d (.str "neg"))) (aj (fu Ex "LineParser" "factor" (o8 n) (bV 0) aH) aH))))
 (aQ (pF "LineParser" "depth" (fun i j=>i-j) (bV 0) (dC (.d (.int 1))))
 (bO (ao 2))))) cV)
 (aQ (aZ 3 (iZ "LineParser" "accept" iJ (bV 0) (aj (dC (.d (.str "word"))) (aj (dTup (aj (dC (.d (.str "min"))) (aj (dC (.d (.str "max"))) aH))) aH))))
 (aQ (gW (fu Ex "LineParser" "take" mX (bV 0) (aj (dC (.d (.str "symbol"))) (aj (dC (.d (.str "("))) aH))))
 (aQ (aZ 2 (fu Ex "LineParser" "expression" (lV n) (bV 0) aH))
 (aQ (bZ (dB (aA kZ (ao 3) (dC (.d .none)))) (aQ (gW (fu Ex "LineParser" "take" mX (bV 0) (aj (dC (.d (.str "symbol"))) (aj (dC (.d (.str ","))) aH))))
 (aZ 2 (dTup (aj (ao 3) (aj (ao 2) (aj (fu Ex "LineParser" "expression" (lV n) (bV 0) aH) aH)))))) cV)
 (aQ (gW (fu Ex "LineParser" "take" mX (bV 0) (aj (dC (.d (.str "symbol"))) (aj (dC (.d (.str ")"))) aH))))
 (bO (ao 2)))))))))))
theorem adp: ∀xs M R RX,¬o8 0 xs M R RX:=vp .fac
theorem acG (n:Nat): ∀xs M R RX,o8 n xs M R RX→xs.length=1:=vq .fac n
theorem ae3 (n:Nat): ∀xs M R RX,o8 (n+1) xs M R RX→ ∀B,XQ n (fun n fs sl M'=>iY 0 B sl∧RX n fs M') {nx:=fun _ M'=>R (.d .none) M',rt:=R} (jx 0 B (dD TX xs)) M:=by
 rintro xs M R RX ⟨a,L,i,d,r,rfl,hL,hi,hp,hX,hR⟩ B
 have hp:(if (tk L.toks i).kind= "number" then dh (.int (NumText.digitsVal (sg (tk L.toks i).text):Nat)) (i+1)
  else if (tk L.toks i).kind= "name" then(if (tk L.toks i).text∈L.nm then dh (.name (tk L.toks i).text) (i+1)else some (.error (tk L.toks i).col))
  else if dU L.toks "symbol" "-" i then jc L.toks d (i+1) ((pP L.nm L.toks n .fac (d+1) (i+1)).then fun a i=>dh (.un .neg a) i)
  else match cQ L.toks "word" [.min,.max] i with
   |none=>cX L.toks "symbol" "(" i fun i=>(pP L.nm L.toks n .expr d i).then fun a i=>cX L.toks "symbol" ")" i fun i=>dh a i
   |some o=>cX L.toks "symbol" "(" (i+1) fun i=>(pP L.nm L.toks n .expr d i).then fun a i=>cX L.toks "symbol" "," i fun i=>(pP L.nm L.toks n .expr d i).then fun b i=>cX L.toks "symbol" ")" i fun i=>dh (.bin o a b) i)=some r:=hp
 obtain⟨b0,hb0,ht0⟩:=hL.token hi
 refine aY (fun sl M1=>sl= [some (.wb (.raw (.ref a)) B),some (.raw (.ref b0)),none,none]∧M1=M) (fun N hN=> ?_) ?_
 ·refine bL (U9 (fun R h=>fL (B:=B) rfl h) hL hi fun b hb ht=> ?_)
  rw [hb0]at hb
  cases hb
  exact hN _ _ ⟨rfl,rfl⟩
 rintro sl M1 ⟨rfl,rfl⟩
 
 refine aY (fun sl M2=>sl= [some (.wb (.raw (.ref a)) B),some (.raw (.ref b0)),none,none]∧(tk L.toks i).kind≠ "number" ∧M2=M1) (fun N hN=> ?_) ?_
 ·refine dN (bU (aO (mH rfl ht0 rfl (aN (eq_str ?_)))))
  by_cases hk:(tk L.toks i).kind= "number"
  ·rw [decide_eq_true hk]
   rw [if_pos hk]at hp
   refine cG rfl ?_
   have hi1:=hL.next hi (by rw [hk];decide+kernel)
   refine sq (Mg (B:=B) rfl hL fun M2 hL2 k2=> ?_)
   dsimp only
   have ht2:iQ M2 b0 (tk L.toks i):=hL2.tks i b0 _ hb0 (nO hi)
   obtain⟨hn1,hn2⟩:=hL.ok.num _ (List.mem_of_getElem? (nO hi)) hk
   refine cJ (aJ (aN (aJ ?_)))
   refine bQ (aJ (mH rfl ht2 rfl (aV ?_)))
   refine bB hn1 ⟨hn2,?_⟩
   refine aV ?_
   refine dR (ds:= [.str "int",.int ((NumText.digitsVal (sg (tk L.toks i).text):Nat):Int)]) ?_
   exact hR _ _ M2 (Option.some.inj hp).symm hL2 hi1 k2
  ·rw [decide_eq_false hk]
   exact bW rfl (hN _ _ ⟨rfl,hk,rfl⟩)
 rintro sl M2 ⟨rfl,hk1,rfl⟩
 rw [if_neg hk1]at hp
 
 refine aY (fun sl M3=>sl= [some (.wb (.raw (.ref a)) B),some (.raw (.ref b0)),none,none]∧(tk L.toks i).kind≠ "name" ∧M3=M2) (fun N hN=> ?_) ?_
 ·refine dN (bU (aO (mH rfl ht0 rfl (aN (eq_str ?_)))))
  by_cases hk:(tk L.toks i).kind= "name"
  ·rw [decide_eq_true hk]
   rw [if_pos hk]at hp
   refine cG rfl ?_
   have hi1:=hL.next hi (by rw [hk];decide+kernel)
   refine aY (fun sl M3=>sl= [some (.wb (.raw (.ref a)) B),some (.raw (.ref b0)),none,none]∧(tk L.toks i).text∈L.nm∧M3=M2) (fun N3 hN3=> ?_) ?_
   ·have fin: ∀k:Bool,k=decide ((tk L.toks i).text∈L.nm)→(if (!k)=true then gW (fu (fun n fs sl M'=>iY 0 B sl∧RX n fs M') "LineParser" "fail" oA (bV 0) (aj (ao 1) aH)) {nx:=N3,rt:=R} [some (.wb (.raw (.ref a)) B),some (.raw (.ref b0)),none,none] M2 else cV {nx:=N3,rt:=R} [some (.wb (.raw (.ref a)) B),some (.raw (.ref b0)),none,none] M2):=by
     rintro k rfl
     by_cases hm:(tk L.toks i).text∈L.nm
     ·rw [decide_eq_true hm]
      exact bW rfl (hN3 _ _ ⟨rfl,hm,rfl⟩)
     ·rw [decide_eq_false hm]
      rw [if_neg hm]at hp
      refine cG rfl ?_
      exact pB (Jg (B:=B) (b:=b0) rfl hL ht0 (hL.cols hi) (fun RA h=>aJ (aG rfl (aV h))) ⟨⟨_,rfl⟩,hX _ M2 (Option.some.inj hp).symm (MK.refl _ _)⟩)
    refine dN (bU (aO (mH rfl ht0 rfl ?_)))
    refine Jv (B:=B) rfl hL.obj (aeY L i d) ?_
    rcases hL.nms with⟨kds,ev,hq⟩|⟨p,kvs,ev,em,hq⟩
    ·rw [ev]
     refine Or.inl (bB (x:=(.inr (tk L.toks i).text:Key)) rfl ?_)
     exact fin _ (hq _)
    ·rw [ev]
     refine Or.inr (bB (x:=(.inr (tk L.toks i).text:Key)) rfl (Cd em ?_))
     exact fin _ (hq _)
   rintro sl M3 ⟨rfl,hm,rfl⟩
   rw [if_pos hm]at hp
   refine sq (Mg (B:=B) rfl hL fun M4 hL4 k4=> ?_)
   dsimp only
   have ht4:iQ M4 b0 (tk L.toks i):=hL4.tks i b0 _ hb0 (nO hi)
   refine cJ (aJ (aN (aJ (mH rfl ht4 rfl (aV ?_)))))
   refine dR (ds:= [.str "name",.str (tk L.toks i).text]) ?_
   exact hR _ _ M4 (Option.some.inj hp).symm hL4 hi1 k4
  ·rw [decide_eq_false hk]
   exact bW rfl (hN _ _ ⟨rfl,hk,rfl⟩)
 rintro sl M3 ⟨rfl,hk2,rfl⟩
 rw [if_neg hk2]at hp
 
 refine aY (fun sl M4=>sl= [some (.wb (.raw (.ref a)) B),some (.raw (.ref b0)),none,none]∧ ¬dU L.toks "symbol" "-" i∧M4=M3) (fun N hN=> ?_) ?_
 ·refine dN (Ft (B:=B) rfl hL hi (by decide+kernel) (fun h M4 hL4 hi4 k4=> ?_) fun h=>bW rfl (hN _ _ ⟨rfl,h,rfl⟩))
  rw [if_pos h]at hp
  unfold jc at hp
  refine cG rfl ?_
  refine aY (fun sl M5=>sl= [some (.wb (.raw (.ref a)) B),some (.raw (.ref b0)),none,none]∧ ¬30<d+1∧cA M5 a L (i+1) (d+1)∧MK [a] M3 M5) (fun N5 hN5=> ?_) ?_
  ·refine pB (fL rfl (gH hL4.obj ⟨rfl,?_⟩))
   refine⟨a,L,i+1,d,rfl,hL4,hi4,fun c M5 h5 k5=>hN5 _ _ ⟨rfl,c,h5,k4.trans k5⟩,fun c M5 k5=>⟨⟨_,rfl⟩,?_⟩⟩
   rw [if_pos c]at hp
   exact hX _ M5 (Option.some.inj hp).symm (k4.trans k5)
  rintro sl M5 ⟨rfl,hd,hL5,k5⟩
  rw [if_neg hd]at hp
  obtain⟨r3,hp3⟩:=ni hp
  refine aY (fun sl M6=> ∃(e:Ex) (j:Nat),sl= [some (.wb (.raw (.ref a)) B),some (.raw (.ref b0)),some (.d (Ex.un .neg e).d),none]∧r3= .ok (e,j)∧cA M6 a L j (d+1)∧j<L.toks.length∧MK [a] M3 M6) (fun N6 hN6=> ?_) ?_
  ·refine bL (aJ (aN (aJ ?_)))
   refine j6 (B:=B) rfl hL5 hi4 rfl hp3 (fun c M6 e k6=>⟨⟨_,rfl⟩,hX _ M6 (nZ hp hp3 e) (k5.trans k6)⟩) fun e j M6 q h6 hj k6=> ?_
   refine aV ?_
   refine dR (ds:= [.str "neg",e.d]) ?_
   exact hN6 _ _ ⟨e,j,rfl,q,h6,hj,k5.trans k6⟩
  rintro sl M6 ⟨e,j,rfl,q,hL6,hj,k6⟩
  have hp4:=nJ hp hp3 q
  refine sq (Gv (B:=B) rfl hL6 fun M7 hL7 k7=> ?_)
  dsimp only
  refine cJ (aG rfl ?_)
  refine hR _ j M7 (Option.some.inj hp4).symm ?_ hj (k6.trans k7)
  have ed:d+1-1=d:=by omega
  rw [←ed]
  exact hL7
 rintro sl M4 ⟨rfl,hk3,rfl⟩
 rw [if_neg hk3]at hp
 
 refine aY (fun sl M5=>sl= [some (.wb (.raw (.ref a)) B),some (.raw (.ref b0)),none,some (.d (pq (cQ L.toks "word" [.min,.max] i)))]∧uQ M5 a L d (cQ L.toks "word" [.min,.max] i) i∧MK [a] M4 M5) (fun N hN=> ?_) ?_
 ·refine bL ?_
  refine Bb (l:= [.min,.max]) (fun R h=>fL (B:=B) rfl h) hL hi (by decide+kernel) (fun RA h=>aJ (aN (aJ (dR (ds:= [.str "min",.str "max"]) (aV h))))) (fun o M' e1 h1 h2 k=> ?_) fun e1=> ?_
  ·have e2:cQ L.toks "word" [.min,.max] i=some o:=e1
   rw [e2]at hN
   exact hN _ _ ⟨rfl,⟨h1,h2⟩,k⟩
  ·have e2:cQ L.toks "word" [.min,.max] i=none:=e1
   rw [e2]at hN
   exact hN _ _ ⟨rfl,⟨hL,hi⟩,MK.refl _ _⟩
 rintro sl M5 ⟨rfl,hS,k5⟩
 generalize cQ L.toks "word" [.min,.max] i=oo at hp hS
 obtain⟨i6,hi6,hL6,hp⟩: ∃i6,i6<L.toks.length∧cA M5 a L i6 d∧cX L.toks "symbol" "(" i6 (fun i=>(pP L.nm L.toks n .expr d i).then fun a i=>match oo with
   |none=>cX L.toks "symbol" ")" i fun i=>dh a i
   |some o=>cX L.toks "symbol" "," i fun i=>(pP L.nm L.toks n .expr d i).then fun b i=>cX L.toks "symbol" ")" i fun i=>dh (.bin o a b) i)=some r:=by
  cases oo with
  |none=>exact⟨i,hS.2,hS.1,hp⟩
  |some o=>exact⟨i+1,hS.2,hS.1,hp⟩
 unfold cX at hp
 refine aY (fun sl M6=>sl= [some (.wb (.raw (.ref a)) B),some (.raw (.ref b0)),none,some (.d (pq oo))]∧dU L.toks "symbol" "(" i6∧cA M6 a L (i6+1) d∧i6+1<L.toks.length∧MK [a] M4 M6) (fun N hN=> ?_) ?_
 ·refine pB (Cy (B:=B) rfl hL6 hi6 (by decide+kernel) (fun q=>⟨⟨_,rfl⟩,?_⟩) fun b M6 q h6 hj6 k6=>hN _ _ ⟨rfl,q,h6,hj6,k5.trans k6⟩)
  rw [if_neg q]at hp
  exact hX _ M5 (Option.some.inj hp).symm k5
 rintro sl M6 ⟨rfl,q6,hL7,hi7,k6⟩
 rw [if_pos q6]at hp
 obtain⟨r7,hp7⟩:=ni hp
 refine aY (fun sl M7=> ∃(e:Ex) (j:Nat),sl= [some (.wb (.raw (.ref a)) B),some (.raw (.ref b0)),some (.d e.d),some (.d (pq oo))]∧r7= .ok (e,j)∧cA M7 a L j d∧j<L.toks.length∧MK [a] M4 M7) (fun N hN=> ?_) ?_
 ·refine bL (j6 (B:=B) rfl hL7 hi7 rfl hp7 (fun c M7 e k7=>⟨⟨_,rfl⟩,hX _ M7 (nZ hp hp7 e) (k6.trans k7)⟩) fun e j M7 q h7 hj k7=>hN _ _ ⟨e,j,rfl,q,h7,hj,k6.trans k7⟩)
 rintro sl M7 ⟨x,j7,rfl,q7,hL8,hj8,k7⟩
 have hp8:=nJ hp hp7 q7
 clear hp
 refine aY (fun sl M8=> ∃(e:Ex) (j:Nat),sl= [some (.wb (.raw (.ref a)) B),some (.raw (.ref b0)),some (.d e.d),some (.d (pq oo))]∧cX L.toks "symbol" ")" j (fun i=>dh e i)=some r∧cA M8 a L j d∧j<L.toks.length∧MK [a] M4 M8) (fun N hN=> ?_) ?_
 ·refine dN (bU (aO (aG rfl (aN ?_))))
  cases oo with
  |none=>exact Bq (bW rfl (hN _ _ ⟨x,j7,rfl,hp8,hL8,hj8,k7⟩))
  |some o=>
   refine Dt (cG rfl ?_)
   dsimp only at hp8
   refine aY (fun sl M9=>sl= [some (.wb (.raw (.ref a)) B),some (.raw (.ref b0)),some (.d x.d),some (.d (.str o.s))]∧dU L.toks "symbol" "," j7∧cA M9 a L (j7+1) d∧j7+1<L.toks.length∧MK [a] M4 M9) (fun N9 hN9=> ?_) ?_
   ·refine pB (Cy (B:=B) rfl hL8 hj8 (by decide+kernel) (fun q=>⟨⟨_,rfl⟩,?_⟩) fun b M9 q h9 hj9 k9=>hN9 _ _ ⟨rfl,q,h9,hj9,k7.trans k9⟩)
    rw [if_neg q]at hp8
    exact hX _ M7 (Option.some.inj hp8).symm k7
   rintro sl M9 ⟨rfl,q9,hL9,hj9,k9⟩
   rw [if_pos q9]at hp8
   obtain⟨r10,Nz⟩:=ni hp8
   refine bL (aJ (aG rfl (aJ (aG rfl (aJ ?_)))))
   refine j6 (B:=B) rfl hL9 hj9 rfl Nz (fun c M10 e k10=>⟨⟨_,rfl⟩,hX _ M10 (nZ hp8 Nz e) (k9.trans k10)⟩) fun y j M10 q h10 hj k10=> ?_
   refine aV ?_
   refine dR (ds:= [.str o.s,x.d,y.d]) ?_
   exact hN _ _ ⟨.bin o x y,j,rfl,nJ hp8 Nz q,h10,hj,k9.trans k10⟩
 rintro sl M8 ⟨e,j,rfl,hp9,hL9,hj9,k8⟩
 unfold cX at hp9
 refine aY (fun sl M9=>sl= [some (.wb (.raw (.ref a)) B),some (.raw (.ref b0)),some (.d e.d),some (.d (pq oo))]∧dU L.toks "symbol" ")" j∧cA M9 a L (j+1) d∧j+1<L.toks.length∧MK [a] M4 M9) (fun N hN=> ?_) ?_
 ·refine pB (Cy (B:=B) rfl hL9 hj9 (by decide+kernel) (fun q=>⟨⟨_,rfl⟩,?_⟩) fun b M9 q h9 hj k9=>hN _ _ ⟨rfl,q,h9,hj,k8.trans k9⟩)
  rw [if_neg q]at hp9
  exact hX _ M8 (Option.some.inj hp9).symm k8
 rintro sl M9 ⟨rfl,q9,aiG,aiH,k9⟩
 rw [if_pos q9]at hp9
 exact cJ (aG rfl (hR e (j+1) M9 (Option.some.inj hp9).symm aiG aiH k9))
theorem aib (n:Nat) {P:Program} {w:World} {K:PySem.W.Frag} {mg:Str→Option Value} {base:Heap} {dV:Value} {f:Addr} {fd:FuncData} (F:dw K "factor" "LineParser.factor" sE dV f fd) (pX:jW P w K mg base "LineParser" "peek" 1 oM) (uG:dX P w K mg base "LineParser" "fail" 3 oA) (iU:jW P w K mg base "LineParser" "accept" 2 iJ) (uH:dX P w K mg base "LineParser" "enter" 4 qP) (DQ:dX P w K mg base "LineParser" "factor" (5+n) (o8 n)) (uI:dX P w K mg base "LineParser" "take" 4 mX) (rQ:dX P w K mg base "LineParser" "expression" (5+n) (lV n)) (oR:mg "int" =none) (oU:fB K "Token" "kind") (lW:fB K "LineParser" "index") (lE:fB K "Token" "text") (Aq:fB K "LineParser" "names") (lX:fB K "LineParser" "depth"):bM P w K mg base (L2.CX P w) (5+n+1) f fd ["self"] (gA K (o8 (n+1))):=
 F.dataX yQ (acG (n+1)) 0 (XQ n) (fun cdv A outer s H E Ex hg hr tk xo hpo=>
  (aR (bx (i:=1) yQ.nd rfl (by first|exact Or.inl rfl|exact Or.inr rfl) (pX.de0 hg (hr.mono (by omega)) (cM 0)))
   (aR (cP (bJ (gj hr) (kY oU (au 1)) aK (nomark _)) (aR (uZ lW (cM 0) aP Bo)
   (aW (b_ (dG (aq aK (aq (wD Uk (by rfl) oR (by decide+kernel) (aq (kY lE (au 1)) aM)) aM)))))) cW)
   (aR (cP (bJ (gj hr) (kY oU (au 1)) aK (nomark _)) (aR (cP (ae5 hr (kY lE (au 1)) (kY Aq (cM 0))) (aW (ju (uG.de tk xo hg (hr.mono (by omega)) (cM 0) (aq (au 1) aM)))) cW)
   (aR (uZ lW (cM 0) aP Bo)
   (aW (b_ (dG (aq aK (aq (kY lE (au 1)) aM))))))) cW)
   (aR (cP (bJ oY (iU.de hg (hr.mono (by omega)) (cM 0) (aq aK (aq (dG (aq aK aM)) aM))) fY (nomark _)) (aR (ju (uH.de0 tk xo hg (hr.mono (by omega)) (cM 0)))
   (aR (bx (i:=2) yQ.nd rfl (by first|exact Or.inl rfl|exact Or.inr rfl) (dG (aq aK (aq (DQ.de0 tk xo hg (hr.mono (Nat.le_refl _)) (cM 0)) aM))))
   (aR (uZ lX (cM 0) aP KQ)
   (aW (b_ (au 2)))))) cW)
   (aR (bx (i:=3) yQ.nd rfl (by first|exact Or.inl rfl|exact Or.inr rfl) (iU.de hg (hr.mono (by omega)) (cM 0) (aq aK (aq (dG (aq aK (aq aK aM))) aM))))
   (aR (ju (uI.de tk xo hg (hr.mono (by omega)) (cM 0) (aq aK (aq aK aM))))
   (aR (bx (i:=2) yQ.nd rfl (by first|exact Or.inl rfl|exact Or.inr rfl) (rQ.de0 tk xo hg (hr.mono (Nat.le_refl _)) (cM 0)))
   (aR (cP (bJ oY (au 3) fY (nomark _)) (aR (ju (uI.de tk xo hg (hr.mono (by omega)) (cM 0) (aq aK (aq aK aM))))
   (aW (bx (i:=2) yQ.nd rfl (by first|exact Or.inl rfl|exact Or.inr rfl) (dG (aq (au 3) (aq (au 2) (aq (rQ.de0 tk xo hg (hr.mono (Nat.le_refl _)) (cM 0)) aM))))))) cW)
   (aR (ju (uI.de tk xo hg (hr.mono (by omega)) (cM 0) (aq aK (aq aK aM))))
   (aW (b_ (au 2))))))))))))) (ae3 n)
abbrev zQ:Stmt:=j_ 33 16
abbrev Xc:List Str:= ["self","parsed"]
theorem agb:FnScope Xc ["self","parsed"] (defScope zQ):=⟨rfl,rfl,rfl,by decide+kernel,rfl,by decide+kernel,by decide+kernel⟩
def Ab:fV:=fun xs M R RX=> ∃(a:Addr) (L:LP) (i:Nat) (d:Int) (x:PyData),xs= [.raw (.ref a),.d x]∧cA M a L i d∧i<L.toks.length∧
 ((tk L.toks i).kind= "end" → ∀M',MK [a] M M'→R (.d x) M')∧((tk L.toks i).kind≠ "end" →RX "SyntaxProblem" (qR L (tk L.toks i).col) M)
def Um (Ex:XD):bK:=(aQ (gW (fu Ex "LineParser" "take" E_ (bV 0) (aj (dC Ca) aH)))
 (bO (ao 1)))
theorem adW: ∀xs M R RX,Ab xs M R RX→xs.length=2:=by
 rintro xs M R RX ⟨a,L,i,d,x,rfl,_⟩
 rfl
theorem ahh: ∀xs M R RX,Ab xs M R RX→ ∀B,Um (fun n fs sl M'=>iY 0 B sl∧RX n fs M') {nx:=fun _ M'=>R (.d .none) M',rt:=R} (jx 0 B (dD Xc xs)) M:=by
 rintro xs M R RX ⟨a,L,i,d,x,rfl,hL,hi,hR,hX⟩ B
 refine sq (pB (fL (B:=B) rfl (gH hL.obj ⟨rfl,?_⟩)))
 refine aJ (aN (aV ?_))
 refine⟨a,L,i,d,"end",none,rfl,hL,hi,fun h b M' hb ht hL' k=> ?_,fun h=>⟨⟨_,rfl⟩,hX fun z=>h ⟨z,fun y q=>by cases q⟩⟩⟩
 dsimp only
 exact cJ (aG rfl (hR h.1 M' k))
theorem agN {P:Program} {w:World} {K:PySem.W.Frag} {mg:Str→Option Value} {base:Heap} {dV:Value} {f:Addr} {fd:FuncData} (F:dw K "whole" "LineParser.whole" zQ dV f fd) (NK:dX P w K mg base "LineParser" "take" 4 E_) (Am:ji K mg "END" Ca):bM P w K mg base (L2.CX P w) 5 f fd ["self","parsed"] (gA K Ab):=
 F.dataX agb adW 0 Um (fun cdv A outer s H E Ex hg hr tk xo hpo=>
  (aR (ju (NK.de tk xo hg (hr.mono (by decide)) (cM 0) (aq (Am.de (by rfl)) aM)))
   (aW (b_ (au 1))))) ahh
abbrev vZ:Stmt:=topS 34
abbrev Ld:List Str:= ["text","names","parser","name"]
theorem Gf:FnScope Ld ["text","names"] (defScope vZ):=⟨rfl,rfl,rfl,by decide+kernel,rfl,by decide+kernel,by decide+kernel⟩
theorem adi {sl:Slots} {M:Mem} {RB:KB} (h:RB true M):qX sl M RB:=h
def yg (nm:List Str) (s:List Nat):Option (Except Int Ex):=match fH s s.length 0 []with
 |none=>none
 |some (.error c)=>some (.error c)
 |some (.ok ts)=>match pP nm ts 250 .expr 0 0 with
  |none=>none
  |some (.error c)=>some (.error c)
  |some (.ok (e,j))=>if (tk ts j).kind= "end" then some (.ok e)else some (.error (tk ts j).col)
def yU:fV:=fun xs M R RX=> ∃(z:Str) (nm:List Str) (nv:PyData) (r:Except Int Ex),xs= [.d (.str z),.d nv]∧(nv= .list (nm.map PyData.str)∨nv= .tuple (nm.map PyData.str))∧nm.length≤1000∧(sg z).length≤100000∧yg nm (sg z)=some r∧
 (∀c M',r= .error c→MK [] M M'→RX "SyntaxProblem" [("column",.int c),("line",.int 1)] M')∧ ∀e M',r= .ok e→MK [] M M'→R (.d e.d) M'
structure xV (kvs:List (Key×DV)) (nm:List Str):Prop where
 val: ∀kv∈kvs,∃x:Str,kv=(.inr x,.d (.bool true))
 key: ∀x:Str,((.inr x,.d (.bool true))∈kvs)↔x∈nm
 len:kvs.length≤nm.length
theorem xV.put {kvs:List (Key×DV)} {nm:List Str} (h:xV kvs nm) (x:Str):xV (putD kvs (.inr x) (.d (.bool true))) (nm++ [x]):=by
 unfold putD
 split
 ·rename_i hany
  have hx:(.inr x,.d (.bool true))∈kvs:=by
   obtain⟨kv,hkv,e⟩:=List.any_eq_true.mp hany
   obtain⟨y,rfl⟩:=h.val kv hkv
   have e:=of_decide_eq_true e
   cases e
   exact hkv
  have em:kvs.map (fun kv=>if kv.1= .inr x then(kv.1,(.d (.bool true):DV))else kv)=kvs:=by
   have: ∀kv∈kvs,(if kv.1= .inr x then(kv.1,(.d (.bool true):DV))else kv)=kv:=fun kv hkv=>by
    obtain⟨y,rfl⟩:=h.val kv hkv
    split
    ·rfl
    ·rfl
   rw [List.map_congr_left this,List.map_id']
  rw [em]
  refine⟨h.val,fun y=> ?_,by rw [List.length_append];have:=h.len;omega⟩
  rw [h.key y,List.mem_append,List.mem_singleton]
  exact⟨.inl,fun q=>q.elim id fun e=>by rw [e];exact(h.key x).mp hx⟩
 ·refine⟨fun kv hkv=> ?_,fun y=> ?_,by rw [List.length_append,List.length_append];have:=h.len;simp;omega⟩
  ·rcases List.mem_append.mp hkv with q|q
   ·exact h.val kv q
   ·exact⟨x,List.mem_singleton.mp q⟩
  ·rw [List.mem_append,List.mem_append,List.mem_singleton,List.mem_singleton,h.key y]
   refine⟨fun q=>q.imp id fun e=> ?_,fun q=>q.imp id fun e=>by rw [e]⟩
   have:=(Prod.mk.inj e).1
   exact Sum.inr.inj this
theorem xV.fin {kvs:List (Key×DV)} {nm:List Str} (h:xV kvs nm): ∃kds,rG kvs=some kds∧ ∀x:Str,(qL kds (.inr x)).isSome=decide (x∈nm):=by
 refine⟨kvs.map fun kv=>(keyD kv.1,.bool true),?_,fun x=> ?_⟩
 ·have: ∀l:List (Key×DV),(∀kv∈l,∃x:Str,kv=(.inr x,.d (.bool true)))→rG l=some (l.map fun kv=>(keyD kv.1,.bool true)):=by
   intro l
   induction l with
   |nil=>intro _;rfl
   |cons kv l ih=>
    intro hl
    obtain⟨x,rfl⟩:=hl kv (by simp)
    show(rG l).map _=_
    rw [ih fun k hk=>hl k (by simp [hk])]
    rfl
  exact this kvs h.val
 ·unfold qL
  rw [Option.isSome_map]
  by_cases hx:x∈nm
  ·rw [decide_eq_true hx]
   rw [List.find?_isSome]
   refine⟨(keyD (.inr x),.bool true),List.mem_map.mpr ⟨_,(h.key x).mpr hx,rfl⟩,?_⟩
   rw [Hj]
   exact decide_eq_true rfl
  ·rw [decide_eq_false hx]
   have e:((kvs.map fun kv=>(keyD kv.1,(PyData.bool true))).find? fun p=>Ly p.1 (.inr x))=none:=by
    rw [List.find?_eq_none]
    intro p hp
    obtain⟨kv,hkv,rfl⟩:=List.mem_map.mp hp
    dsimp only
    rw [Hj]
    intro q
    have q:=of_decide_eq_true q
    obtain⟨y,rfl⟩:=h.val kv hkv
    cases q
    exact hx ((h.key x).mp hkv)
   rw [e]
   rfl
def YL (Ex:XD):bK:=(aQ (aZ 2 (KZ Ex "LineParser" xQ (aj (bV 0) (aj (dC (.d (.int 1))) (aj (Ie (o_ (ao 1)) (iT 3) qX (ao 3) (dC (.d (.bool true))) [3]) aH)))))
 (bO (fu Ex "LineParser" "whole" Ab (ao 2) (aj (fu Ex "LineParser" "expression" (lV 250) (ao 2) aH) aH))))
theorem af3: ∀xs M R RX,yU xs M R RX→xs.length=2:=by
 rintro xs M R RX ⟨z,nm,nv,r,rfl,_⟩
 rfl
theorem aeO: ∀xs M R RX,yU xs M R RX→ ∀B,YL (fun n fs sl M'=>iY 0 B sl∧RX n fs M') {nx:=fun _ M'=>R (.d .none) M',rt:=R} (jx 0 B (dD Ld xs)) M:=by
 rintro xs M R RX ⟨z,nm,nv,r,rfl,hnv,hnl,hz,hp,hX,hR⟩ B
 obtain⟨r1,hr1,hp1⟩: ∃r1,fH (sg z) (sg z).length 0 []=some r1∧(match r1 with
  | .error c=>some (.error c)
  | .ok ts=>match pP nm ts 250 .expr 0 0 with
   |none=>none
   |some (.error c)=>some (.error c)
   |some (.ok (e,j))=>if (tk ts j).kind= "end" then some (.ok e)else some (.error (tk ts j).col))=some r:=by
  unfold yg at hp
  match h:fH (sg z) (sg z).length 0 [],hp with
  |some (.error c),hp=>exact⟨_,rfl,hp⟩
  |some (.ok ts),hp=>exact⟨_,rfl,hp⟩
 refine aY (fun sl M1=> ∃(a:Addr) (L:LP),sl= [some (.wb (.d (.str z)) B),some (.d nv),some (.raw (.ref a)),none]∧r1= .ok L.toks∧L.number=1∧L.nm=nm∧cA M1 a L 0 0∧M a=none∧MK [] M M1) (fun N hN=> ?_) ?_
 ·refine bL ?_
  unfold KZ
  refine aJ (fL (B:=B) rfl (aJ (aN (aJ ?_))))
  have aiI: ∀{R:List DV→Mem→Prop} {sl:Slots} (_:sl[1]? =some (some (.d nv))),R ((nm.map PyData.str).map DV.d) M→o_ (ao 1) sl M R:=fun e h=>by
   rcases hnv with rfl|rfl
   ·exact aG e h
   ·exact aG e h
  unfold Ie
  refine aiI rfl fun p np=>⟨fun i M'=> ∃kvs,M' p=some (.dk kvs)∧xV kvs (nm.take i)∧M'=bD M p (.dk kvs),⟨[],cY,⟨fun _ h=>(by cases h),fun x=>(by simp),(by simp)⟩,rfl⟩,?_,?_⟩
  ·rintro i x M' hx ⟨kvs,e,hT,rfl⟩
   rw [List.map_map]at hx
   obtain⟨y,hy,rfl⟩:=yu hx
   refine jL ?_
   refine adi (cG rfl ?_)
   refine aG rfl (aN (bB rfl (Cd e ⟨?_,?_⟩)))
   ·have h1:=hT.len
    have h2:(nm.take i).length≤1000:=by rw [List.length_take];omega
    exact Nat.lt_of_le_of_lt (Nat.le_trans h1 h2) (by decide)
   ·rw [qH]
    refine⟨_,cY,?_,rfl⟩
    rw [take_snoc hy]
    exact hT.put y
  ·rintro M' ⟨kvs,e,hT,rfl⟩
   rw [List.length_map,List.length_map,List.take_of_length_le (Nat.le_refl _)]at hT
   obtain⟨kds,ek,hk⟩:=hT.fin
   refine Cd e (bB ek (aV fun a na=> ?_))
   rw [Mh np]at na ⊢
   refine⟨a,z,1,.d (.dict kds),nm,r1,rfl,cY,hz,by decide,by decide,.inl ⟨kds,rfl,hk⟩,hr1,fun c M' hc k=> ?_,fun L M' hL hnum _ hLn hA k=> ?_⟩
   ·rw [hc]at hp1
    exact⟨⟨_,rfl⟩,hX c M' (Option.some.inj hp1).symm (MK.up na k)⟩
   ·exact⟨rfl,hN _ _ ⟨a,L,rfl,hL,hnum,hLn,hA,na,MK.up na k⟩⟩
 rintro sl M1 ⟨a,L,rfl,hL,hnum,hLn,hA,na,k1⟩
 have drop: ∀{M2},MK [a] M1 M2→MK [] M M2:=fun k b o e _=>k b o (k1 b o e (by simp)) (by
  intro z
  rw [List.mem_singleton.mp z,na]at e
  cases e)
 rw [hL]at hp1
 dsimp only at hp1
 have h0:0<L.toks.length:=by
  have:=hL▸hr1
  exact Cp _ _ _ _ this
 have hp2: ∃r2,pP nm L.toks 250 .expr 0 0=some r2∧(match r2 with
   | .error c=>some (.error c)
   | .ok (e,j)=>if (tk L.toks j).kind= "end" then some (.ok e)else some (.error (tk L.toks j).col))=some r:=by
  match h:pP nm L.toks 250 .expr 0 0,hp1 with
  |some (.error c),hp=>exact⟨_,rfl,hp⟩
  |some (.ok (e,j)),hp=>exact⟨_,rfl,hp⟩
 obtain⟨r2,hr2,hp2⟩:=hp2
 have se: ∀c:Int,qR L c=([("column",.int c),("line",.int 1)]:List (Str×PyData)):=fun c=>by unfold qR;rw [hnum]
 refine cJ (aG rfl (gH hA.obj ⟨rfl,?_⟩))
 refine aJ (aG rfl (gH hA.obj ⟨rfl,aV ?_⟩))
 refine⟨a,L,0,0,r2,rfl,hA,h0,by rw [hLn];exact hr2,fun c M' hc k=> ?_,fun e j M' he hA' hj k=> ?_⟩
 ·rw [hc]at hp2
  rw [se]
  exact⟨⟨_,rfl⟩,hX c M' (Option.some.inj hp2).symm (drop k)⟩
 ·rw [he]at hp2
  dsimp only at hp2
  refine aV ⟨a,L,j,0,e.d,rfl,hA',hj,fun h M'' k'=> ?_,fun h=> ?_⟩
  ·rw [if_pos h]at hp2
   exact hR e M'' (Option.some.inj hp2).symm (drop (k.trans k'))
  ·rw [if_neg h]at hp2
   rw [se]
   exact⟨⟨_,rfl⟩,hX _ M' (Option.some.inj hp2).symm (drop k)⟩
theorem aha {P:Program} {w:World} {K:PySem.W.Frag} {mg:Str→Option Value} {base:Heap} {dV:Value} {f:Addr} {fd:FuncData} (F:dw K "parse_expression" "parse_expression" vZ dV f fd) (NP:G3 P w K mg base "LineParser" 5 xQ) (rQ:dX P w K mg base "LineParser" "expression" 255 (lV 250)) (NQ:dX P w K mg base "LineParser" "whole" 5 Ab):bM P w K mg base (L2.CX P w) 256 f fd ["text","names"] (gA K yU):=
 F.dataX Gf af3 0 YL (fun cdv A outer s H E Ex hg hr tk xo hpo=>
  (aR (bx (i:=2) Gf.nd rfl (by first|exact Or.inl rfl|exact Or.inr rfl) (NP.de tk xo hg (hr.mono (by decide)) (by rfl) (aq (cM 0) (aq aP (aq (acK (own:= [("name",3)]) rfl Gf.nd (v8 (au 1)) (blkOk_by (own:= [("name",3)]) (N:=Ld) (sc:=defScope vZ) (by decide+kernel)) (fun _ _ _ _ _=>(jf (i:=3) Gf.nd rfl (by first|exact Or.inl rfl|exact Or.inr rfl))) (fun _ _ _ _ _=>Bc) (fun _ _ _ _ _=>(au 3)) (fun _ _ _ _ _=>CK) (by decide)) aM)))))
   (aW (b_ (NQ.de tk xo hg (hr.mono (by decide)) (au 2) (aq (rQ.de0 tk xo hg (hr.mono (by decide)) (au 2)) aM)))))) aeO
abbrev xr:Stmt:=topS 54
abbrev V8:List Str:= ["caught"]
theorem adN:FnScope V8 ["caught"] (defScope xr):=⟨rfl,rfl,rfl,by decide+kernel,rfl,by decide+kernel,by decide+kernel⟩
def zK:dM:=fun xs M R=> ∃fs,xs= [.err "SyntaxProblem" fs]∧R (.d (.bool true)) M
def W4:bK:=(aQ (bZ (dB (dCall (Bv tE wF) (aj (ao 0) (aj (JC (aj (dC (.cls "BadClaim")) (aj (dC (.cls "BadPath")) (aj (dC (.cls "Incompatible")) (aj (dC (.cls "InvalidCommand")) (aj (dC (.cls "InvalidOrdinal")) (aj (dC (.cls "NoBreakpoint")) (aj (dC (.cls "NoEvent")) aH)))))))) aH)))) (bO (dC (.d (.bool false)))) cV)
 (aQ (bZ (dB (dCall (Bv tE wF) (aj (ao 0) (aj (JC (aj (dC (.cls "NoMark")) (aj (dC (.cls "NoVariable")) (aj (dC (.cls "NotLater")) (aj (dC (.cls "NotReached")) (aj (dC (.cls "OutOfRange")) (aj (dC (.cls "TooLong")) (aj (dC (.cls "ZeroDivisor")) aH)))))))) aH)))) (bO (dC (.d (.bool false)))) cV)
 (bO (uh (dCall (Bv tE wF) (aj (ao 0) (aj (dC (.cls "SyntaxProblem")) aH))) (dCall (Bv tE wF) (aj (ao 0) (aj (dC (.raw (.ty "ValueError"))) aH)))))))
theorem aem: ∀xs M R,zK xs M R→xs.length=1:=by
 rintro xs M R ⟨fs,rfl,_⟩
 rfl
theorem acn: ∀xs M R,zK xs M R→W4 {nx:=fun _ M'=>R (.d .none) M',rt:=R} (dD V8 xs) M:=by
 rintro xs M R ⟨fs,rfl,h⟩
 refine sq ?_
 refine bB (x:=(["BadClaim","BadPath","Incompatible","InvalidCommand","InvalidOrdinal","NoBreakpoint","NoEvent"]:List Str)) rfl ⟨by show 7≤sizeLine;decide,by simp,?_⟩
 refine bB (show wz tE "SyntaxProblem" ["BadClaim","BadPath","Incompatible","InvalidCommand","InvalidOrdinal","NoBreakpoint","NoEvent"]=some false by decide+kernel) ?_
 refine bW rfl ?_
 refine sq ?_
 refine bB (x:=(["NoMark","NoVariable","NotLater","NotReached","OutOfRange","TooLong","ZeroDivisor"]:List Str)) rfl ⟨by show 7≤sizeLine;decide,by simp,?_⟩
 refine bB (show wz tE "SyntaxProblem" ["NoMark","NoVariable","NotLater","NotReached","OutOfRange","TooLong","ZeroDivisor"]=some false by decide+kernel) ?_
 refine bW rfl ?_
 refine bB (show tE "SyntaxProblem" "SyntaxProblem" =some true by decide+kernel) ?_
 refine cG rfl ?_
 exact bB (show wF "SyntaxProblem" "ValueError" =some true by decide+kernel) h
theorem aht {P:Program} {w:World} {K:PySem.W.Frag} {mg:Str→Option Value} {base:Heap} {dV:Value} {f:Addr} {fd:FuncData} (F:dw K "_law_is_problem" "_law_is_problem" xr dV f fd) (Av:mg "isinstance" =none) (NT:mg "ValueError" =none) (NZ:fU K mg "BadClaim") (N7:fU K mg "BadPath") (N_:fU K mg "Incompatible") (Oa:fU K mg "InvalidCommand") (Oc:fU K mg "InvalidOrdinal") (Od:fU K mg "NoBreakpoint") (Oe:fU K mg "NoEvent") (Og:fU K mg "NoMark") (Oh:fU K mg "NoVariable") (Oi:fU K mg "NotLater") (Oj:fU K mg "NotReached") (Ol:fU K mg "OutOfRange") (Om:fU K mg "TooLong") (Oo:fU K mg "ZeroDivisor") (DR:fU K mg "SyntaxProblem") (Ax:G_ K tE wF):bM P w K mg base CX0 1 f fd ["caught"] (dO K zK):=
 F.data adN aem W4 (fun cdv A outer s H E hg hr=>
  (aR (cP (Fl (gU (Hv Ax) (by rfl) Av (by decide+kernel) (aq (au 0) (aq (Ve (aq (NZ.de (by rfl)) (aq (N7.de (by rfl)) (aq (N_.de (by rfl)) (aq (Oa.de (by rfl)) (aq (Oc.de (by rfl)) (aq (Od.de (by rfl)) (aq (Oe.de (by rfl)) aM)))))))) aM)))) (aW (b_ CK)) cW)
   (aR (cP (Fl (gU (Hv Ax) (by rfl) Av (by decide+kernel) (aq (au 0) (aq (Ve (aq (Og.de (by rfl)) (aq (Oh.de (by rfl)) (aq (Oi.de (by rfl)) (aq (Oj.de (by rfl)) (aq (Ol.de (by rfl)) (aq (Om.de (by rfl)) (aq (Oo.de (by rfl)) aM)))))))) aM)))) (aW (b_ CK)) cW)
   (aW (b_ (Dr (gU (Hv Ax) (by rfl) Av (by decide+kernel) (aq (au 0) (aq (DR.de (by rfl)) aM))) (CJ (gU (Hv Ax) (by rfl) Av (by decide+kernel) (aq (au 0) (aq (afJ (by rfl) NT (by decide+kernel)) aM)))))))))) acn
abbrev zX:Stmt:=topS 55
abbrev TV:List Str:= ["text","names","caught","found","e"]
theorem yS:FnScope TV ["text","names"] (defScope zX):=⟨rfl,rfl,rfl,by decide+kernel,rfl,by decide+kernel,by decide+kernel⟩
def yI:dM:=fun xs M R=> ∃(z:Str) (nm:List Str) (r:Except Int Ex),xs= [.d (.str z),.d (.list (nm.map PyData.str))]∧nm.length≤1000∧(sg z).length≤100000∧yg nm (sg z)=some r∧(∀c M',r= .error c→MK [] M M'→R (.d (.tuple [.none,.int 1,.int c])) M')∧ ∀e M',r= .ok e→MK [] M M'→R (.d (.tuple [e.d,.none,.none])) M'
theorem acE {M:Mem} {R:KD} (k:R (.d (.bool true)) M):A_ (.d .none) (.d .none) M R:=k
theorem afn {n:Str} {fs:List (Str×PyData)} {M:Mem} {R:KD} (k:R (.d (.bool false)) M):A_ (.err n fs) (.d .none) M R:=k
def Yt:bK:=(aQ (aZ 2 (dC (.d .none)))
 (aQ (aZ 3 (dC (.d .none)))
 (aQ (Zo ["SyntaxProblem"] 4 2 fun Ex=>(aZ 3 (Cu Ex yU (aj (ao 0) (aj (ao 1) aH)))))
 (aQ (bZ (dB (aA A_ (ao 2) (dC (.d .none)))) (bO (dTup (aj (ao 3) (aj (dC (.d .none)) (aj (dC (.d .none)) aH))))) cV)
 (bO (jY (dB (dCall zK (aj (ao 2) aH))) (dTup (aj (dC (.d .none)) (aj (JB ["SyntaxProblem"] "line" (ao 2)) (aj (JB ["SyntaxProblem"] "column" (ao 2)) aH)))) (dTup (aj (dC (.d .none)) (aj (dC (.d (.int 0))) (aj (dC (.d (.int 0))) aH))))))))))
theorem aek: ∀xs M R,yI xs M R→xs.length=2:=by
 rintro xs M R ⟨z,nm,r,rfl,_⟩
 rfl
theorem ag4: ∀xs M R,yI xs M R→Yt {nx:=fun _ M'=>R (.d .none) M',rt:=R} (dD TV xs) M:=by
 rintro xs M R ⟨z,nm,r,rfl,hl,hz,hp,hX,hR⟩
 refine sq ?_
 refine sq ?_
 refine aY (fun sl M1=> ∃(c:DV) (f:PyData) (eZ ZM u_e:Option DV),sl= [eZ,ZM,some (c),some (.d f),u_e]∧MK [] M M1∧((∃c',c= .err "SyntaxProblem" [("column",.int c'),("line",.int 1)]∧r= .error c')∨ ∃e,c= .d .none∧f=e.d∧r= .ok e)) (fun N hN=> ?_) ?_
 ·refine⟨⟨_,rfl⟩,fun Bh=> ?_⟩
  refine bL ?_
  refine JN (aJ (aG rfl (aJ (aG rfl (aV ?_)))))
  refine⟨z,nm,_,r,rfl,.inl rfl,hl,hz,hp,fun c M' hc k=> ?_,fun e M' he k=> ?_⟩
  ·exact⟨⟨_,rfl⟩,by decide,hN _ _ ⟨_,_,_,_,_,rfl,k,.inl ⟨c,rfl,hc⟩⟩⟩
  ·exact hN _ _ ⟨_,_,_,_,_,rfl,k,.inr ⟨e,rfl,rfl,he⟩⟩
 rintro sl M1 ⟨c,f,eZ,ZM,u_e,rfl,k1,hf⟩
 refine sq ?_
 refine dN (bU (aO ?_))
 refine aG rfl (aN ?_)
 rcases hf with⟨c',rfl,hr⟩|⟨e,rfl,rfl,hr⟩
 ·refine afn (bW rfl ?_)
  unfold cV
  dsimp only
  refine cJ (oG (bU ?_))
  refine bQ (aJ (aG rfl (aV ?_)))
  refine⟨_,rfl,cG rfl ?_⟩
  refine aJ (aN (aJ ?_))
  refine aG rfl ⟨by decide,.int 1,by simp,?_⟩
  refine aJ ?_
  refine aG rfl ⟨by decide,.int c',by simp,aV ?_⟩
  exact dR (ds:= [.none,.int 1,.int c']) (hX c' M1 hr k1)
 ·refine acE (cG rfl ?_)
  refine cJ (aJ (aG rfl (aJ (aN (aJ (aN (aV ?_)))))))
  exact dR (ds:= [e.d,.none,.none]) (hR e M1 hr k1)
theorem abZ {P:Program} {w:World} {K:PySem.W.Frag} {mg:Str→Option Value} {base:Heap} {dV:Value} {f:Addr} {fd:FuncData} (F:dw K "_law_outcome" "_law_outcome" zX dV f fd) (Oq:DefX P w K mg base "parse_expression" 256 yU) (Ot:Def P w K mg base "_law_is_problem" 1 zK) (DR:fU K mg "SyntaxProblem") (Ou:Jw K mg "LimitRunError" ["SyntaxProblem"]) (Ov:BW K ["SyntaxProblem"] "column") (Ow:BW K ["SyntaxProblem"] "line"):bM P w K mg base CX0 257 f fd ["text","names"] (dO K yI):=
 F.data yS aek Yt (fun cdv A outer s H E hg hr=>
  (aR (bx (i:=2) yS.nd rfl (by first|exact Or.inl rfl|exact Or.inr rfl) fY)
   (aR (bx (i:=3) yS.nd rfl (by first|exact Or.inl rfl|exact Or.inr rfl) fY)
   (aR (ahl (i:=4) (j:=2) Ou (by rfl) (by decide) rfl rfl rfl yS.nd rfl rfl (by decide) rfl rfl (fun Ex W pn xe tk xo hpo=>(aW (bx (i:=3) yS.nd rfl (by first|exact Or.inl rfl|exact Or.inr rfl) (Oq.de tk xo hg (hr.mono (by decide)) (by rfl) (aq (au 0) (aq (au 1) aM)))))) (fun a oe pn=>pss_one (ps_set (i:=2) yS.nd rfl (Or.inl rfl) (pv 4))))
   (aR (cP (bJ agY (au 2) fY (nomark _)) (aW (b_ (dG (aq (au 3) (aq fY (aq fY aM)))))) cW)
   (aW (b_ (n_ (Fl (Ot.de hg (hr.mono (by decide)) (by rfl) (aq (au 2) aM))) (dG (aq fY (aq (Vq Ow (au 2)) (aq (Vq Ov (au 2)) aM)))) (dG (aq fY (aq aP (aq aP aM)))))))))))) ag4
abbrev sG:Stmt:=topS 61
abbrev Vk:List Str:= ["script","source","names","texts","long","ending","turn","tokens","time","text","deep","many"]
theorem j9:FnScope Vk ["script"] (defScope sG):=⟨rfl,rfl,rfl,by decide+kernel,rfl,by decide+kernel,by decide+kernel⟩
def sp_law:dM:=fun xs M R=> ∃ns:List Int,xs= [.scr ns]∧ns.length≤63∧ ∀M',R (.d (.bool true)) M'
theorem ahK: ∀ns M R,ns.length≤63→(∀M',R (.d (.bool true)) M')→sp_law [.scr ns] M R:=fun ns M R hl h=>⟨ns,rfl,hl,h⟩
def i_:List Str:= ["x","count"]
theorem acH {t:Str} {c:Nat} {r:List Nat} (e:sg t=c::r) (h:(eX c && r.all gK && decide ((sg t).length≤8))=true):lA t:=by
 rw [Bool.and_eq_true,Bool.and_eq_true]at h
 exact .wd c r e h.1.1 (List.all_eq_true.mp h.1.2) fun _=>of_decide_eq_true h.2
theorem Wi: ∀x∈i_,lA x:=by
 intro x hx
 simp only [i_,List.mem_cons,List.not_mem_nil,or_false]at hx
 rcases hx with rfl|rfl<;>exact acH rfl (by decide+kernel)
theorem wI {B k:Nat}:dW B (k+1) 0 (.tuple []):=(dW.tup (k:=k) (n:=0) (m:=0) (ds:= []) (fun _ h=>by cases h) (Nat.le_refl 0)).mono (Nat.le_refl _) (Nat.le_refl _)
theorem j5 {B k n m:Nat} {d:PyData} {ds:List PyData} (h:dW B k n d) (t:dW B (k+1) m (.tuple ds)):dW B (k+1) (n+1+m) (.tuple (d::ds)):=by
 obtain⟨t1,t2,t3,t4,t5⟩:=t
 simp only [PyData.leavesShort]at t1
 simp only [PyData.showable]at t2
 simp only [PyData.plain]at t3
 simp only [PyData.depth]at t4
 simp only [PyData.bulk]at t5
 have h1:=h.dp
 have h2:=h.bk
 refine⟨?_,?_,?_,?_,?_⟩
 ·simp only [PyData.leavesShort,PyData.leavesShortAll,h.ls,t1,Bool.and_self]
 ·simp only [PyData.showable,PyData.showableAll,h.sh,t2,Bool.and_self]
 ·simp only [PyData.plain,PyData.plainAll,h.pl,t3,Bool.and_self]
 ·simp only [PyData.depth,PyData.depthAll]
  omega
 ·simp only [PyData.bulk,PyData.bulkAll]
  omega
theorem wA {names:List Str} (hn: ∀x∈names,x.length≤8∧(x.cps.toList.all fun c=>decide (c<16^8))=true): ∀e:Ex,e.okS names→dW 21 e.sz (40*e.sz) e.d
 | .int i,h=>by
  have h:0≤i∧i<10^6:=h
  have hi:dW 21 0 8 (.int i):=(dW.int (b:=20) (ahP (by decide) (show vX 20 i by show i.natAbs<2^20;omega))).mono (Nat.le_refl _) (by decide)
  have hs:dW 21 0 8 (.str "int"):=zY (by decide+kernel) (by decide+kernel)
  exact(j5 hs (j5 hi wI)).mono (Nat.le_refl _) (by show _≤40*1;omega)
 | .name x,h=>by
  have h:=hn x h
  have hs:dW 21 0 8 (.str "name"):=zY (by decide+kernel) (by decide+kernel)
  exact(j5 hs (j5 (zY h.2 h.1:dW 21 0 8 (.str x)) wI)).mono (Nat.le_refl _) (by show _≤40*1;omega)
 | .ite a b c,h=>by
  have h:a.okS names∧b.okS names∧c.okS names:=h
  have ha:=(wA hn a h.1).mono (k':=a.sz+b.sz+c.sz) (by omega) (Nat.le_refl _)
  have hb:=(wA hn b h.2.1).mono (k':=a.sz+b.sz+c.sz) (by omega) (Nat.le_refl _)
  have hc:=(wA hn c h.2.2).mono (k':=a.sz+b.sz+c.sz) (by omega) (Nat.le_refl _)
  have hs:dW 21 (a.sz+b.sz+c.sz) 8 (.str "if"):=(zY (by decide+kernel) (by decide+kernel)).mono (Nat.zero_le _) (Nat.le_refl _)
  exact(j5 hs (j5 ha (j5 hb (j5 hc wI)))).mono (Nat.le_refl _) (by show _≤40*(a.sz+b.sz+c.sz+1);omega)
 | .un o a,h=>by
  have ha:=wA hn a h
  have hs:dW 21 a.sz 8 (.str o.s):=(aeE o).mono (Nat.zero_le _) (Nat.le_refl _)
  exact(j5 hs (j5 ha wI)).mono (Nat.le_refl _) (by show _≤40*(a.sz+1);omega)
 | .bin o a b,h=>by
  have h:a.okS names∧b.okS names:=h
  have ha:=(wA hn a h.1).mono (k':=a.sz+b.sz) (by omega) (Nat.le_refl _)
  have hb:=(wA hn b h.2).mono (k':=a.sz+b.sz) (by omega) (Nat.le_refl _)
  have hs:dW 21 (a.sz+b.sz) 8 (.str o.s):=(adT o).mono (Nat.zero_le _) (Nat.le_refl _)
  exact(j5 hs (j5 ha (j5 hb wI))).mono (Nat.le_refl _) (by show _≤40*(a.sz+b.sz+1);omega)
def wQ (c:Int):Prop:=0≤c∧c<10^20
def EB (r:PRs):Prop:= ∀c,r=some (.error c)→wQ c
theorem qQ {e:Ex} {j:Nat}:EB (dh e j):=fun c z=>by cases z
theorem Jm {c:Int} (h:wQ c):EB (some (.error c)):=fun c' z=>by cases z;exact h
theorem mj {r:PRs} {f:Ex→Nat→PRs} (h:EB r) (hf: ∀e j,EB (f e j)):EB (r.then f):=by
 match r,h with
 |none,_=>exact fun c z=>(by cases z)
 |some (.error c'),h=>exact fun c z=>by cases z;exact h c' rfl
 |some (.ok (e,j)),_=>exact hf e j
theorem G9 {ts:List Tk} (ok:nU ts) (i:Nat):wQ (tk ts i).col:=by
 by_cases h:i<ts.length
 ·exact ok.col _ (List.mem_of_getElem? (nO h))
 ·unfold tk
  rw [List.getD_eq_getElem?_getD,List.getElem?_eq_none (by omega)]
  exact⟨by decide,by decide⟩
theorem wB {ts:List Tk} (ok:nU ts) {kind x:Str} {i:Nat} {f:Nat→PRs} (h:EB (f (i+1))):EB (cX ts kind x i f):=by
 unfold cX
 split
 ·exact h
 ·exact Jm (G9 ok i)
theorem La {ts:List Tk} (ok:nU ts) {d:Int} {i:Nat} {r:PRs} (h:EB r):EB (jc ts d i r):=by
 unfold jc
 split
 ·exact Jm (G9 ok i)
 ·exact h
theorem Bp {op:Nat→Option Op} {sub:Nat→PRs} (h: ∀i,EB (sub i)): ∀(k:Nat) (a:Ex) (i:Nat),EB (fG op sub k a i)
 |0,a,i=>fun c z=>(by cases z)
 |k+1,a,i=>by
  unfold fG
  cases op i with
  |none=>exact qQ
  |some o=>exact mj (h _) fun b j=>Bp h k _ _
theorem ux {nm:List Str} {ts:List Tk} (ok:nU ts): ∀(n:Nat) (k:PK) (d:Int) (i:Nat),EB (pP nm ts n k d i)
 |0,k,d,i=>fun c z=>(by cases k<;>cases z)
 |n+1,.expr,d,i=>by
  have ih:=ux (nm:=nm) ok n
  unfold pP
  refine La ok ?_
  split
  ·exact mj (ih _ _ _) fun c i=>wB ok (mj (ih _ _ _) fun a i=>wB ok (mj (ih _ _ _) fun b i=>qQ))
  ·exact ih _ _ _
 |n+1,.disj,d,i=>by
  have ih:=ux (nm:=nm) ok n
  unfold pP
  exact mj (ih _ _ _) fun a i=>Bp (fun i=>ih _ _ _) _ _ _
 |n+1,.conj,d,i=>by
  have ih:=ux (nm:=nm) ok n
  unfold pP
  exact mj (ih _ _ _) fun a i=>Bp (fun i=>ih _ _ _) _ _ _
 |n+1,.neg,d,i=>by
  have ih:=ux (nm:=nm) ok n
  unfold pP
  split
  ·exact La ok (mj (ih _ _ _) fun a i=>qQ)
  ·exact ih _ _ _
 |n+1,.cmp,d,i=>by
  have ih:=ux (nm:=nm) ok n
  unfold pP
  refine mj (ih _ _ _) fun a i=> ?_
  split
  ·exact qQ
  ·exact mj (ih _ _ _) fun b i=>qQ
 |n+1,.add,d,i=>by
  have ih:=ux (nm:=nm) ok n
  unfold pP
  exact mj (ih _ _ _) fun a i=>Bp (fun i=>ih _ _ _) _ _ _
 |n+1,.prod,d,i=>by
  have ih:=ux (nm:=nm) ok n
  unfold pP
  exact mj (ih _ _ _) fun a i=>Bp (fun i=>ih _ _ _) _ _ _
 |n+1,.fac,d,i=>by
  have ih:=ux (nm:=nm) ok n
  unfold pP
  split
  ·exact qQ
  split
  ·split
   ·exact qQ
   ·exact Jm (G9 ok i)
  split
  ·exact La ok (mj (ih _ _ _) fun a i=>qQ)
  split
  ·exact wB ok (mj (ih _ _ _) fun a i=>wB ok qQ)
  ·exact wB ok (mj (ih _ _ _) fun a i=>wB ok (mj (ih _ _ _) fun b i=>wB ok qQ))
theorem WM {s:List Nat} {i:Nat}:(∀c,iV s i= .error c→c=(i:Int)+1)∧ ∀t,iV s i= .ok t→t.col=(i:Int)+1:=by
 unfold iV
 dsimp only
 constructor
 ·intro c h
  split at h
  ·split at h
   ·cases h;rfl
   ·cases h
  ·split at h
   ·split at h
    ·cases h;rfl
    ·cases h
   ·split at h
    ·cases h
    ·cases h;rfl
 ·intro t h
  split at h
  ·split at h
   ·cases h
   ·cases h;rfl
  ·split at h
   ·split at h
    ·cases h
    ·cases h;rfl
   ·split at h
    ·cases h;rfl
    ·cases h
theorem aeH {s:List Nat} (hs:s.length≤100000): ∀(n i:Nat) (acc:List Tk) (r:Except Int (List Tk)),acc.length≤120→fH s n i acc=some r→(∀c,r= .error c→wQ c)∧ ∀ts,r= .ok ts→ts.length≤121:=by
 have fin: ∀(acc:List Tk) (r:Except Int (List Tk)),acc.length≤120→some (.ok (acc++ [(⟨"end","",(s.length:Int)+1⟩:Tk)]))=some r→(∀c,r= .error c→wQ c)∧ ∀ts,r= .ok ts→ts.length≤121:=fun acc r h e=>by
  cases e
  refine⟨fun c z=>(by cases z),fun ts z=> ?_⟩
  cases z
  rw [List.length_append,List.length_singleton]
  omega
 intro n
 induction n with
 |zero=>
  intro i acc r h e
  unfold fH at e
  split at e
  ·cases e
  ·exact fin acc r h e
 |succ n ih=>
  intro i acc r h e
  unfold fH at e
  split at e
  ·rename_i hi
   have co:wQ ((i:Int)+1):=⟨by omega,by omega⟩
   split at e
   ·exact ih _ _ _ h e
   ·split at e
    ·rename_i c hc
     cases e
     refine⟨fun c' z=> ?_,fun ts z=>(by cases z)⟩
     cases z
     rw [WM.1 _ hc]
     exact co
    ·rename_i t ht
     split at e
     ·cases e
      refine⟨fun c' z=> ?_,fun ts z=>(by cases z)⟩
      cases z
      rw [WM.2 _ ht]
      exact co
     ·rename_i Ai
      refine ih _ _ _ ?_ e
      rw [List.length_append,List.length_singleton]
      omega
  ·exact fin acc r h e
theorem adQ {nm:List Str} {s:List Nat} (hs:s.length≤100000): ∃r,yg nm s=some r∧(∀c,r= .error c→wQ c)∧ ∀e,r= .ok e→e.okS nm∧e.sz≤121:=by
 obtain⟨r1,h1⟩:=Jb (s:=s) s.length 0 [] (by omega)
 have hf:=aeH hs _ _ _ _ (Nat.zero_le _) h1
 unfold yg
 rw [h1]
 cases r1 with
 |error c=>exact⟨_,rfl,fun c' z=>(by cases z;exact hf.1 c rfl),fun e z=>(by cases z)⟩
 |ok ts=>
  have ok:nU ts:=B_ hs _ _ [] ts (fun t ht=>(by cases ht)) (Nat.zero_le _) h1
  have tw:=Ye _ _ [] ts (fun t ht=>(by cases ht)) h1
  have h0:0<ts.length:=Cp _ _ _ _ h1
  have hl:=hf.2 ts rfl
  obtain⟨r2,h2,g2'⟩:=pO (nm:=nm) ok tw 250 .expr 0 0 (by decide) (by decide) (by decide) h0
  have he:=ux (nm:=nm) ok 250 .expr 0 0
  dsimp only
  rw [h2]at he ⊢
  match r2,g2',he with
  | .error c,_,he=>exact⟨_,rfl,fun c' z=>(by cases z;exact he c rfl),fun e z=>(by cases z)⟩
  | .ok (e,j),g2',_=>
   obtain⟨a1,a2,a3,a4⟩:=g2' e j rfl
   dsimp only
   by_cases hk:(tk ts j).kind= "end"
   ·rw [if_pos hk]
    exact⟨_,rfl,fun c z=>(by cases z),fun e' z=>by cases z;exact⟨a4,by omega⟩⟩
   ·rw [if_neg hk]
    exact⟨_,rfl,fun c z=>by cases z;exact G9 ok j,fun e' z=>(by cases z)⟩
theorem YF (nm:List Str) (s:List Nat):Jy nm s=yg nm s:=rfl
structure TxOk (l:List Str) (n:Nat):Prop where
 len:l.length≤n
 sm: ∀t∈l,t.length≤100000
theorem TxOk.add {a b:List Str} {m n k:Nat} (h:TxOk a m) (g:TxOk b n) (e:m+n≤k):TxOk (a++b) k:=⟨by rw [List.length_append];have:=h.len;have:=g.len;omega,jk h.sm g.sm⟩
theorem mJ {t:Str} {l:List Str} {n:Nat} (ht:t.length≤100000) (h:TxOk l n):TxOk (t::l) (n+1):=⟨by have:=h.len;simp only [List.length_cons];omega,fun x hx=>(List.mem_cons.mp hx).elim (fun e=>by rw [e];exact ht) (h.sm x)⟩
theorem Fx:TxOk [] 0:=⟨Nat.le_refl _,fun _ h=>by cases h⟩
theorem VG (n:Nat):((List.replicate n ("1" :Str)).map (·.length)).sum=n:=by
 induction n with
 |zero=>rfl
 |succ n ih=>
  rw [List.replicate_succ,List.map_cons,List.sum_cons,ih,show("1" :Str).length=1 by decide+kernel]
  omega
theorem V_ {S:List Nat}: ∀ps:List (List Nat),(TL.joinL S ps).length≤(ps.map (·.length)).sum+ps.length*S.length
 | []=>Nat.zero_le _
 | [p]=>by
  show p.length≤_
  simp
 |p::q::r=>by
  have h2:=V_ (S:=S) (q::r)
  show(p++(S++TL.joinL S (q::r))).length≤_
  rw [List.length_append,List.length_append,List.map_cons,List.sum_cons,List.length_cons (a:=p),Nat.add_mul,Nat.one_mul]
  omega
theorem adG (ys:List Str):(Txt.join " + " ys).length≤(ys.map (·.length)).sum+ys.length*3:=by
 rw [TL.len_tl,TL.join_eq,TL.tl_join,show TL.tl (" + " :Str)= [32,43,32] by decide+kernel]
 have h:=V_ (S:= [32,43,32]) (ys.map TL.tl)
 rw [List.length_map,List.map_map]at h
 have e:(ys.map ((fun x:List Nat=>x.length)∘TL.tl))=ys.map (·.length):=List.map_congr_left fun y _=>(TL.len_tl y).symm
 rw [e]at h
 exact h
theorem Yc: ∀ys:List Str,u9 (ys.map PyData.str)=some ys
 | []=>rfl
 |y::ys=>by
  show(u9 (ys.map PyData.str)).map _=_
  rw [Yc ys]
  rfl
def t_law:bK:=(aQ (aZ 1 (dCall yJ (aj (ao 0) aH)))
 (aQ (aZ 2 (cU (aj (dC (.d (.str "x"))) (aj (dC (.d (.str "count"))) aH))))
 (aQ (aZ 3 (cU (aj (dC (.d (.str ""))) (aj (dC (.d (.str " "))) (aj (dC (.d (.str "x x"))) (aj (dC (.d (.str "1 < 2 < 3"))) (aj (dC (.d (.str "not"))) (aj (dC (.d (.str "()"))) (aj (dC (.d (.str "min(1)"))) (aj (dC (.d (.str "min(1, 2, 3)"))) (aj (dC (.d (.str "if 1 then 2"))) (aj (dC (.d (.str "y"))) (aj (dC (.d (.str "01"))) (aj (dC (.d (.str "x = = 1"))) aH))))))))))))))
 (aQ (aZ 4 (Jk (dC (.d (.str " + "))) (aA (g2 qY) (cU (aj (dC (.d (.str "1"))) aH)) (aA (g2 aX) (dC (.d (.int 59))) (dCall h_ (aj (ao 1) (aj (dC (.d (.int 3))) aH)))))))
 (aQ (aZ 3 (aA (g2 aX) (ao 3) (cU (aj (dC (.d (.str "x\t+ 1"))) (aj (dC (.d (.str "\tx"))) (aj (aA (g2 aX) (dC (.d (.str "x x + "))) (ao 4)) (aj (aA (g2 Di) (dC (.d (.str "1"))) (dC (.d (.int 5000)))) aH)))))))
 (aQ (aZ 5 (dCall jR (aj (ao 1) (aj (cU (aj (dC (.d (.str ""))) (aj (dC (.d (.str " x"))) (aj (dC (.d (.str " -"))) (aj (dC (.d (.str " ("))) (aj (dC (.d (.str " y"))) (aj (dC (.d (.str " Z"))) (aj (dC (.d (.str " + 1 01"))) (aj (dC (.d (.str " abcdefghi"))) aH))))))))) aH))))
 (aQ (aZ 3 (aA (g2 aX) (ao 3) (cU (aj (dC (.d (.str "low"))) (aj (dC (.d (.str "1 +"))) (aj (dC (.d (.str "1 mod"))) (aj (dC (.d (.str "mod 2"))) (aj (aA (g2 aX) (ao 4) (ao 5)) aH))))))))
 (aQ (o9 (wV (aj (dC (.d (.int 8))) aH)) (iT 6) (aQ (aZ 7 (dCall (lF 24) (aj (ao 1) (aj (dCall (pZ 8) (aj (ao 1) (aj (ao 2) (aj (aA (g2 aX) (dC (.d (.int 1))) (dCall h_ (aj (ao 1) (aj (dC (.d (.int 3))) aH)))) aH)))) (aj (dC (.d (.int 0))) (aj (u_ (aj (dC (.d (.int 3))) aH)) aH))))))
 (aQ (o9 (wV (aj (aA (g2 aX) (dC (.d (.int 1))) (dCall h_ (aj (ao 1) (aj (dC (.d (.int 3))) aH)))) aH)) (iT 8) (aZ 7 (dCall yw (aj (ao 1) (aj (ao 7) aH)))))
 (aQ (aZ 9 (dCall xM (aj (ao 1) (aj (ao 7) aH))))
 (aQ (aZ 10 (dCall yE (aj (ao 1) aH)))
 (aQ (aZ 3 (aA (g2 aX) (ao 3) (cU (aj (ao 9) (aj (dCall tU (aj (ao 1) (aj (ao 9) aH))) (aj (dCall tU (aj (ao 1) (aj (dCall tU (aj (ao 1) (aj (ao 9) aH))) aH))) (aj (ao 10) aH)))))))
 (aQ (aZ 11 (aA (g2 aX) (dC (.d (.int 26))) (aA (g2 (jA (fun _ j=>0<j) (· % ·))) (ao 6) (dC (.d (.int 6))))))
 (aZ 3 (aA (g2 aX) (ao 3) (cU (aj (dCall tU (aj (ao 1) (aj (ao 10) aH))) (aj (aA (g2 aX) (aA (g2 aX) (aA (g2 Di) (dC (.d (.str "("))) (ao 11)) (dC (.d (.str "if x then 1 else 0")))) (aA (g2 Di) (dC (.d (.str ")"))) (ao 11))) aH))))))))))))
 (aQ (o9 (o_ (ao 3)) (iT 9) (bZ (KN (dB (dCall Aa (aj (dCall yI (aj (ao 9) (aj (ao 2) aH))) (aj (dCall yF (aj (ao 9) (aj (ao 2) aH))) aH))))) (bO (dC (.d (.bool false)))) cV))
 (bO (dC (.d (.bool true)))))))))))))
theorem afi: ∀xs M R,sp_law xs M R→xs.length=1:=by
 rintro xs M R ⟨ns,rfl,_⟩
 rfl
theorem pure_law: ∀xs M R,sp_law xs M R→t_law {nx:=fun _ M'=>R (.d .none) M',rt:=R} (dD Vk xs) M:=by
 rintro xs M R ⟨ns,rfl,hl,h⟩
 refine sq ⟨ns,rfl,hl,fun p nums hnl np=> ?_⟩
 have s0:dH (bD M p (Gn nums 0 0)) p:=⟨nums,0,0,hnl,cY⟩
 refine aY (fun sl M1=>sl= [some (.scr ns),some (.raw (.ref p)),some (.d (.list (i_.map PyData.str))),none,none,none,none,none,none,none,none,none]∧dH M1 p) (fun N hN=> ?_) ?_
 ·exact bL (bB (x:=i_.map PyData.str) rfl ⟨Nat.le_of_ble_eq_true rfl,hN _ _ ⟨rfl,s0⟩⟩)
 rintro sl M1 ⟨rfl,s1⟩
 refine aY (fun sl M2=> ∃l:List Str,sl= [some (.scr ns),some (.raw (.ref p)),some (.d (.list (i_.map PyData.str))),some (.d (.list (l.map PyData.str))),none,none,none,none,none,none,none,none]∧TxOk l 12∧dH M2 p) (fun N hN=> ?_) ?_
 ·refine bL ?_
  refine bB (x:=([""," ","x x","1 < 2 < 3","not","()","min(1)","min(1, 2, 3)","if 1 then 2","y","01","x = = 1"]:List Str).map PyData.str) rfl ⟨Nat.le_of_ble_eq_true rfl,hN _ _ ⟨_,rfl,⟨Nat.le_of_ble_eq_true rfl,?_⟩,s1⟩⟩
  have: ∀t∈([""," ","x x","1 < 2 < 3","not","()","min(1)","min(1, 2, 3)","if 1 then 2","y","01","x = = 1"]:List Str),t.length≤20:=by decide+kernel
  exact fun t ht=>Nat.le_trans (this t ht) (by decide)
 rintro sl M2 ⟨l,rfl,hT,s2⟩
 refine aY (fun sl M3=> ∃lg:Str,lg.length≤1000∧sl= [some (.scr ns),some (.raw (.ref p)),some (.d (.list (i_.map PyData.str))),some (.d (.list (l.map PyData.str))),some (.d (.str lg)),none,none,none,none,none,none,none]∧dH M3 p) (fun N hN=> ?_) ?_
 ·refine bL ?_
  unfold Jk
  refine aN ⟨trivial,?_⟩
  refine aO ?_
  refine bB (x:= [.str "1"]) rfl ⟨Nat.le_of_ble_eq_true rfl,?_⟩
  refine aO (aN ?_)
  refine bQ (aJ (aG rfl (aJ (aN (aV ?_)))))
  refine⟨p,_,rfl,by decide,by decide,s2,fun r M3 r0 r1 k3 s3=>jE ?_⟩
  obtain⟨w,rfl⟩: ∃w:Nat,r=(w:Nat):=⟨r.toNat,by omega⟩
  rw [show(59:Int)+((w:Nat):Int)=((59+w:Nat):Int) by omega]
  refine⟨⟨by omega,by omega,by rw [sizeLine_eq];simp;omega⟩,?_⟩
  have er:rep [PyData.str "1"] (((59+w:Nat):Int))=(List.replicate (59+w) ("1" :Str)).map PyData.str:=by
   unfold rep
   rw [Int.toNat_natCast]
   generalize 59+w=n
   induction n with
   |zero=>rfl
   |succ n ih=>rw [List.replicate_succ,List.flatten_cons,ih,List.replicate_succ];rfl
  rw [er]
  have hj:=adG (List.replicate (59+w) "1")
  rw [VG,List.length_replicate]at hj
  refine bB (Yc _) ⟨?_,hN _ _ ⟨_,by omega,rfl,s3⟩⟩
  rw [VG,List.length_replicate,show(" + " :Str).length=3 by decide+kernel]
  omega
 rintro sl M3 ⟨lg,hlg,rfl,s3⟩
 have aoC:(Txt.mul ("1" :Str) 5000).length=5000:=by
  have:=Cv (x:=("1" :Str)) (n:=5000) (by decide+kernel)
  rw [show("1" :Str).length=1 by decide+kernel]at this
  exact this
 refine aY (fun sl M4=> ∃l:List Str,sl= [some (.scr ns),some (.raw (.ref p)),some (.d (.list (i_.map PyData.str))),some (.d (.list (l.map PyData.str))),some (.d (.str lg)),none,none,none,none,none,none,none]∧TxOk l 16∧dH M4 p) (fun N hN=> ?_) ?_
 ·refine bL (aO (aG rfl ?_))
  refine aJ (aN (aJ (aN (aJ ?_))))
  refine aO (aN (aG rfl ?_))
  refine add_sl (by rw [show("x x + " :Str).length=6 by decide+kernel];omega) fun z hz=> ?_
  rw [show("x x + " :Str).length=6 by decide+kernel]at hz
  refine aJ ?_
  refine aO (aN (aN ⟨⟨by decide,by decide,by decide+kernel,by decide+kernel⟩,?_⟩))
  refine aV ?_
  refine dR (ds:=([_,_,z,Txt.mul "1" 5000]:List Str).map PyData.str) ?_
  have:=hT.len
  refine qb (by show l.length+4≤_;omega) (hN _ _ ⟨_,rfl,hT.add (mJ (by decide+kernel) (mJ (by decide+kernel) (mJ (by omega) (mJ (by omega) Fx)))) (by decide),s3⟩)
 rintro sl M4 ⟨l4,rfl,hT4,s4⟩
 refine aY (fun sl M5=> ∃en:Str,en.length≤20∧sl= [some (.scr ns),some (.raw (.ref p)),some (.d (.list (i_.map PyData.str))),some (.d (.list (l4.map PyData.str))),some (.d (.str lg)),some (.d (.str en)),none,none,none,none,none,none]∧dH M5 p) (fun N hN=> ?_) ?_
 ·refine bL (bQ (aJ (aG rfl (aJ ?_))))
  refine bB (x:=([""," x"," -"," ("," y"," Z"," + 1 01"," abcdefghi"]:List Str).map PyData.str) rfl ⟨Nat.le_of_ble_eq_true rfl,aV ?_⟩
  refine⟨p,_,rfl,Nat.le_of_ble_eq_true rfl,Nat.le_of_ble_eq_true rfl,s4,fun d M5 hd k5 s5=> ?_⟩
  obtain⟨t,ht,rfl⟩:=List.mem_map.mp hd
  have: ∀t∈([""," x"," -"," ("," y"," Z"," + 1 01"," abcdefghi"]:List Str),t.length≤20:=by decide+kernel
  exact hN _ _ ⟨t,this t ht,rfl,s5⟩
 rintro sl M5 ⟨en,hen,rfl,s5⟩
 refine aY (fun sl M6=> ∃l:List Str,sl= [some (.scr ns),some (.raw (.ref p)),some (.d (.list (i_.map PyData.str))),some (.d (.list (l.map PyData.str))),some (.d (.str lg)),some (.d (.str en)),none,none,none,none,none,none]∧TxOk l 21∧dH M6 p) (fun N hN=> ?_) ?_
 ·refine bL (aO (aG rfl ?_))
  refine aJ (aN (aJ (aN (aJ (aN (aJ (aN (aJ ?_))))))))
  refine aO (aG rfl (aG rfl ?_))
  refine add_sl (by omega) fun z hz=> ?_
  refine aV ?_
  refine dR (ds:=([_,_,_,_,z]:List Str).map PyData.str) ?_
  have:=hT4.len
  refine qb (by show l4.length+5≤_;omega) (hN _ _ ⟨_,rfl,hT4.add (mJ (by decide+kernel) (mJ (by decide+kernel) (mJ (by decide+kernel) (mJ (by decide+kernel) (mJ (by omega) Fx))))) (by decide),s5⟩)
 rintro sl M6 ⟨l6,rfl,hT6,s6⟩
 refine aY (fun sl M7=> ∃(l:List Str) (gM gQ uJ jO gR eZ jw iG:Option DV),sl= [some (.scr ns),some (.raw (.ref p)),some (.d (.list (i_.map PyData.str))),some (.d (.list (l.map PyData.str))),gM,gQ,uJ,jO,gR,eZ,jw,iG]∧TxOk l 100) (fun N hN=> ?_) ?_
 ·refine⟨⟨by decide,by decide⟩,fun i sl M'=> ∃(l:List Str) (gM gQ uJ jO gR eZ jw iG:Option DV),sl= [some (.scr ns),some (.raw (.ref p)),some (.d (.list (i_.map PyData.str))),some (.d (.list (l.map PyData.str))),gM,gQ,uJ,jO,gR,eZ,jw,iG]∧TxOk l (21+6*i)∧dH M' p,⟨l6,_,_,_,_,_,_,_,_,rfl,hT6,s6⟩,?_,?_⟩
  ·rintro i x sl M7 hx ⟨l7,gM,gQ,uJ,jO,gR,eZ,jw,iG,rfl,hT7,s7⟩
   obtain⟨rfl,hi⟩:=LK hx
   have hi8:i<8:=hi
   refine jL ?_
   
   refine aY (fun sl M8=> ∃(tl:List Str) (gM gQ gR eZ jw iG:Option DV),sl= [some (.scr ns),some (.raw (.ref p)),some (.d (.list (i_.map PyData.str))),some (.d (.list (l7.map PyData.str))),gM,gQ,some (.d (.int (0+(i:Int)))),some (.d (.list (tl.map PyData.str))),gR,eZ,jw,iG]∧tl.length≤332∧(∀t∈tl,tL t)∧dH M8 p) (fun N8 hN8=> ?_) ?_
   ·refine bL (bQ (aJ (aG rfl (aJ ?_))))
    refine bQ (aJ (aG rfl (aJ (aG rfl (aJ (aO (aN ?_)))))))
    refine bQ (aJ (aG rfl (aJ (aN (aV ?_)))))
    refine⟨p,_,rfl,by decide,by decide,s7,fun r M8 r0 r1 k8 s8=>jE (aV ?_)⟩
    obtain⟨w,rfl⟩: ∃w:Nat,r=(w:Nat):=⟨r.toNat,by omega⟩
    rw [show(1:Int)+((w:Nat):Int)=((w+1:Nat):Int) by omega]
    refine⟨p,i_,w+1,rfl,by omega,by decide,by decide,s8,fun e M9 eo ed k9 s9=> ?_⟩
    refine aJ (aN (aJ ?_))
    refine aJ (aN (aV ⟨Nat.le_of_ble_eq_true rfl,fun q nq=>aV ?_⟩))
    have hpq:p≠q:=fun e=>by
     obtain⟨nums,i,z,_,e2⟩:=s9
     rw [←e,e2]at nq
     cases nq
    obtain⟨nums,j,z,h14,e2⟩:=s9
    refine⟨p,q,e,0,3,i_,rfl,by decide,by decide,⟨⟨nums,j,z,h14,(fO hpq).trans e2⟩,cY⟩,eo,by omega,by rw [if_neg (by omega)];omega,fun tl s' M10 hw hs' hTT k10=> ?_⟩
    have hw:=hw.mono (s':=3) (by omega)
    refine hN8 _ _ ⟨tl,_,_,_,_,_,_,rfl,?_,fun t ht=>U_ (rJ (vB Wi e eo) hw t ht),hTT.src⟩
    have h1:=jT e 3 0 tl (by decide) (by decide) hw
    have h2:lU e.dep≤332:=u5 (n:=3) (by omega)
    omega
   rintro sl M8 ⟨tl,gM,gQ,gR,eZ,jw,iG,rfl,htl,hts,s8⟩
   
   refine aY (fun sl M9=> ∃(tl:List Str) (gM gQ gR eZ jw iG:Option DV),sl= [some (.scr ns),some (.raw (.ref p)),some (.d (.list (i_.map PyData.str))),some (.d (.list (l7.map PyData.str))),gM,gQ,some (.d (.int (0+(i:Int)))),some (.d (.list (tl.map PyData.str))),gR,eZ,jw,iG]∧tl.length≤335∧(∀t∈tl,tL t)∧dH M9 p) (fun N9 hN9=> ?_) ?_
   ·unfold o9 wV
    refine aJ (aO (aN ?_))
    refine bQ (aJ (aG rfl (aJ (aN (aV ?_)))))
    refine⟨p,_,rfl,by decide,by decide,s8,fun r M9 r0 r1 k9 s9=>jE (aV ?_)⟩
    obtain⟨w,rfl⟩: ∃w:Nat,r=(w:Nat):=⟨r.toNat,by omega⟩
    rw [show(1:Int)+((w:Nat):Int)=((w+1:Nat):Int) by omega]
    refine⟨⟨by omega,by omega⟩,fun j sl M'=> ∃(tl:List Str) (gM gQ gR eZ jw iG:Option DV),sl= [some (.scr ns),some (.raw (.ref p)),some (.d (.list (i_.map PyData.str))),some (.d (.list (l7.map PyData.str))),gM,gQ,some (.d (.int (0+(i:Int)))),some (.d (.list (tl.map PyData.str))),gR,eZ,jw,iG]∧tl.length≤332+j∧(∀t∈tl,tL t)∧dH M' p,⟨tl,_,_,_,_,_,_,rfl,htl,hts,s9⟩,?_,?_⟩
    ·rintro j x sl M10 hx ⟨tl,gM,gQ,gR,eZ,jw,iG,rfl,htl,hts,s10⟩
     obtain⟨rfl,hj⟩:=LK hx
     refine jL ?_
     refine bL (bQ (aJ (aG rfl (aJ (aG rfl (aV ?_))))))
     refine⟨p,tl,rfl,by omega,hts,s10,fun tl' M11 hl' hs' s11=> ?_⟩
     exact⟨tl',_,_,_,_,_,_,rfl,by omega,hs',s11⟩
    ·rintro sl M10 ⟨tl,gM,gQ,gR,eZ,jw,iG,rfl,htl,hts,s10⟩
     rw [Hz]at htl
     exact hN9 _ _ ⟨tl,_,_,_,_,_,_,rfl,by omega,hts,s10⟩
   rintro sl M9 ⟨tl,gM,gQ,gR,eZ,jw,iG,rfl,htl,hts,s9⟩
   
   refine aY (fun sl M10=> ∃(z:Str) (gM gQ jO gR jw iG:Option DV),sl= [some (.scr ns),some (.raw (.ref p)),some (.d (.list (i_.map PyData.str))),some (.d (.list (l7.map PyData.str))),gM,gQ,some (.d (.int (0+(i:Int)))),jO,gR,some (.d (.str z)),jw,iG]∧z.length≤4000∧dH M10 p) (fun N10 aiJ=> ?_) ?_
   ·refine bL (bQ (aJ (aG rfl (aJ (aG rfl (aV ?_))))))
    refine⟨p,tl,rfl,by omega,hts,s9,fun z M10 hz hzl k10 s10=> ?_⟩
    exact aiJ _ _ ⟨z,_,_,_,_,_,_,rfl,by rw [str_len];omega,s10⟩
   rintro sl M10 ⟨z,gM,gQ,jO,gR,jw,iG,rfl,hz,s10⟩
   refine aY (fun sl M11=> ∃(dp:Str) (gM gQ jO gR iG:Option DV),sl= [some (.scr ns),some (.raw (.ref p)),some (.d (.list (i_.map PyData.str))),some (.d (.list (l7.map PyData.str))),gM,gQ,some (.d (.int (0+(i:Int)))),jO,gR,some (.d (.str z)),some (.d (.str dp)),iG]∧dp.length≤3000∧dH M11 p) (fun N11 aiK=> ?_) ?_
   ·refine bL (bQ (aJ (aG rfl (aV ?_))))
    exact⟨p,rfl,s10,fun dp M11 hd k11 s11=>aiK _ _ ⟨dp,_,_,_,_,_,rfl,hd,s11⟩⟩
   rintro sl M11 ⟨dp,gM,gQ,jO,gR,iG,rfl,hdp,s11⟩
   refine aY (fun sl M12=> ∃(l:List Str) (gM gQ jO gR eZ iG:Option DV),sl= [some (.scr ns),some (.raw (.ref p)),some (.d (.list (i_.map PyData.str))),some (.d (.list (l.map PyData.str))),gM,gQ,some (.d (.int (0+(i:Int)))),jO,gR,eZ,some (.d (.str dp)),iG]∧TxOk l (25+6*i)∧dH M12 p) (fun N12 aiL=> ?_) ?_
   ·refine bL (aO (aG rfl ?_))
    refine aJ (aG rfl (aJ ?_))
    refine bQ (aJ (aG rfl (aJ (aG rfl (aV ?_)))))
    refine⟨p,z,rfl,by omega,s11,fun z1 M12 h1 k12 s12=> ?_⟩
    refine aJ ?_
    refine bQ (aJ (aG rfl (aJ ?_)))
    refine bQ (aJ (aG rfl (aJ (aG rfl (aV ?_)))))
    refine⟨p,z,rfl,by omega,s12,fun z2 M13 h2 k13 s13=>aV ?_⟩
    refine⟨p,z2,rfl,by omega,s13,fun z3 M14 h3 k14 s14=> ?_⟩
    refine aJ (aG rfl (aV ?_))
    refine dR (ds:=([z,z1,z3,dp]:List Str).map PyData.str) ?_
    have:=hT7.len
    refine qb (by show l7.length+4≤_;omega) (aiL _ _ ⟨_,_,_,_,_,_,_,rfl,hT7.add (mJ (by omega) (mJ (by omega) (mJ (by omega) (mJ (by omega) Fx)))) (by omega),s14⟩)
   rintro sl M12 ⟨l12,gM,gQ,jO,gR,eZ,iG,rfl,ZP,s12⟩
   refine aY (fun sl M13=> ∃(m:Nat) (gM gQ jO gR eZ:Option DV),sl= [some (.scr ns),some (.raw (.ref p)),some (.d (.list (i_.map PyData.str))),some (.d (.list (l12.map PyData.str))),gM,gQ,some (.d (.int (0+(i:Int)))),jO,gR,eZ,some (.d (.str dp)),some (.d (.int (m:Nat)))]∧26≤m∧m≤40∧dH M13 p) (fun N13 aiM=> ?_) ?_
   ·refine bL (aO (aN ?_))
    refine aO (aG rfl (aN ⟨show(0:Int)<6 by decide,jE ?_⟩))
    have e6:(26:Int)+(0+(i:Int)) % 6=((26+i % 6:Nat):Int):=by omega
    show N13 (List.set _ _ (some (.d (.int ((26:Int)+(0+(i:Int)) % 6))))) _
    rw [e6]
    exact aiM _ _ ⟨26+i % 6,_,_,_,_,_,rfl,by omega,by omega,s12⟩
   rintro sl M13 ⟨m,gM,gQ,jO,gR,eZ,rfl,hm1,hm2,s13⟩
   refine bL (aO (aG rfl ?_))
   refine aJ ?_
   refine bQ (aJ (aG rfl (aJ (aG rfl (aV ?_)))))
   refine⟨p,dp,rfl,by omega,s13,fun z1 M14 h1 k14 s14=> ?_⟩
   refine aJ ?_
   have lp:(Txt.mul ("(" :Str) ((m:Nat):Int)).length=m:=by rw [Cv (by decide+kernel),show("(" :Str).length=1 by decide+kernel];omega
   have lq:(Txt.mul (")" :Str) ((m:Nat):Int)).length=m:=by rw [Cv (by decide+kernel),show(")" :Str).length=1 by decide+kernel];omega
   have li:("if x then 1 else 0" :Str).length=18:=by decide+kernel
   refine aO (aO (aO ?_))
   refine aN (aG rfl ⟨⟨by omega,by omega,by decide+kernel,by decide+kernel⟩,?_⟩)
   refine aN (add_sl (by omega) fun z2 h2=> ?_)
   refine aO (aN (aG rfl ⟨⟨by omega,by omega,by decide+kernel,by decide+kernel⟩,?_⟩))
   refine add_sl (by omega) fun z3 h3=> ?_
   refine aV ?_
   refine dR (ds:=([z1,z3]:List Str).map PyData.str) ?_
   have:=ZP.len
   refine qb (by show l12.length+2≤_;omega) ?_
   exact⟨_,_,_,_,_,_,_,_,_,rfl,ZP.add (mJ (by omega) (mJ (by omega) Fx)) (by omega),s14⟩
  ·rintro sl M7 ⟨l7,gM,gQ,uJ,jO,gR,eZ,jw,iG,rfl,hT7,s7⟩
   rw [Hz]at hT7
   exact hN _ _ ⟨l7,_,_,_,_,_,_,_,_,rfl,⟨Nat.le_trans hT7.len (by decide),hT7.sm⟩⟩
 rintro sl M7 ⟨l7,gM,gQ,uJ,jO,gR,eZ,jw,iG,rfl,hT7⟩
 refine aY (fun sl M8=>True) (fun N hN=> ?_) fun sl M8 _=>cJ (aN (h M8))
 unfold o9 o_
 refine aG rfl ?_
 refine⟨fun i sl M'=> ∃(gM gQ uJ jO gR eZ jw iG:Option DV),sl= [some (.scr ns),some (.raw (.ref p)),some (.d (.list (i_.map PyData.str))),some (.d (.list (l7.map PyData.str))),gM,gQ,uJ,jO,gR,eZ,jw,iG],⟨_,_,_,_,_,_,_,_,rfl⟩,?_,fun sl' M' _=>hN _ _ trivial⟩
 rintro i x sl M8 hx ⟨gM,gQ,uJ,jO,gR,eZ,jw,iG,rfl⟩
 rw [List.map_map]at hx
 obtain⟨z,hz,rfl⟩:=yu hx
 have hzl:(sg z).length≤100000:=by
  rw [←str_len]
  exact hT7.sm z (List.mem_of_getElem? hz)
 obtain⟨r,hr,hc,he⟩:=adQ (nm:=i_) hzl
 refine jL ?_
 refine dN (acX (bU ?_))
 refine bQ (aJ ?_)
 refine bQ (aJ (aG rfl (aJ (aG rfl (aV ?_)))))
 refine⟨z,i_,r,rfl,by decide,hzl,hr,fun c M9 e k9=> ?_,fun e M9 ee k9=> ?_⟩
 ·refine aJ ?_
  refine bQ (aJ (aG rfl (aJ (aG rfl (aV ?_)))))
  refine⟨z,i_,r,rfl,hzl,by rw [YF];exact hr,fun c' M10 e' k10=> ?_,fun e' M10 ee k10=> ?_⟩
  ·rw [e]at e'
   cases e'
   refine aV ⟨_,rfl,?_,?_⟩
   ·have co:=hc c e
    have hi:dW 105 0 0 (.int c):=dW.int (b:=100) (PySem.Flt.log2_lt_of (by decide) (by have:=co.1;have:=co.2;omega))
    have h1:dW 105 0 0 (.int 1):=dW.int (b:=5) (PySem.Flt.log2_lt_of (by decide) (by decide))
    exact(j5 dW.none (j5 h1 (j5 hi wI))).ok
   ·exact bW rfl ⟨_,_,_,_,_,_,_,_,rfl⟩
  ·rw [e]at ee
   cases ee
 ·refine aJ ?_
  refine bQ (aJ (aG rfl (aJ (aG rfl (aV ?_)))))
  refine⟨z,i_,r,rfl,hzl,by rw [YF];exact hr,fun c' M10 e' k10=> ?_,fun e' M10 ee' k10=> ?_⟩
  ·rw [ee]at e'
   cases e'
  ·rw [ee]at ee'
   cases ee'
   refine aV ⟨_,rfl,?_,?_⟩
   ·obtain⟨eo,es⟩:=he e ee
    have hs:=(wA (acf Wi) e eo).mono (k':=121) (n':=40*121) (by omega) (by omega)
    exact(j5 hs (j5 (n:=0) (dW.none.mono (Nat.zero_le _) (Nat.le_refl _)) (j5 (n:=0) (dW.none.mono (Nat.zero_le _) (Nat.le_refl _)) wI))).ok (hk:=by decide) (hn:=by decide)
   ·exact bW rfl ⟨_,_,_,_,_,_,_,_,rfl⟩
theorem ok_law {P:Program} {w:World} {K:PySem.W.Frag} {mg:Str→Option Value} {base:Heap} {dV:Value} {f:Addr} {fd:FuncData} (F:dw K "law" "law" sG dV f fd) (Ox:Def P w K mg base "_law_source" 1 yJ) (fX:Def P w K mg base "_law_pick" 2 h_) (jM:Def P w K mg base "_law_choose" 3 jR) (rO:Def P w K mg base "_law_tokens_of" 27 (lF 24)) (Du:Def P w K mg base "_law_expression" 12 (pZ 8)) (Oz:Def P w K mg base "_law_changed" 4 yw) (OD:Def P w K mg base "_law_joined" 4 xM) (OJ:Def P w K mg base "_law_deep" 4 yE) (Ay:Def P w K mg base "_law_bent" 4 tU) (O2:Def P w K mg base "_law_equal" 1 Aa) (O4:Def P w K mg base "_law_expected" 305 yF) (O5:Def P w K mg base "_law_outcome" 257 yI) (rN:mg "range" =none):bM P w K mg base CX0 306 f fd ["script"] (dO K sp_law):=
 F.data j9 afi t_law (fun cdv A outer s H E hg hr=>
  (aR (bx (i:=1) j9.nd rfl (by first|exact Or.inl rfl|exact Or.inr rfl) (Ox.de hg (hr.mono (by decide)) (by rfl) (aq (au 0) aM)))
   (aR (bx (i:=2) j9.nd rfl (by first|exact Or.inl rfl|exact Or.inr rfl) (dZ (aq aK (aq aK aM))))
   (aR (bx (i:=3) j9.nd rfl (by first|exact Or.inl rfl|exact Or.inr rfl) (dZ (aq aK (aq aK (aq aK (aq aK (aq aK (aq aK (aq aK (aq aK (aq aK (aq aK (aq aK (aq aK aM))))))))))))))
   (aR (bx (i:=4) j9.nd rfl (by first|exact Or.inl rfl|exact Or.inr rfl) (aie aK (aU rW (dZ (aq aK aM)) (aU bH aP (fX.de hg (hr.mono (by decide)) (by rfl) (aq (au 1) (aq aP aM)))))))
   (aR (bx (i:=3) j9.nd rfl (by first|exact Or.inl rfl|exact Or.inr rfl) (aU bH (au 3) (dZ (aq aK (aq aK (aq (aU bH aK (au 4)) (aq (aU Gz aK aP) aM)))))))
   (aR (bx (i:=5) j9.nd rfl (by first|exact Or.inl rfl|exact Or.inr rfl) (jM.de hg (hr.mono (by decide)) (by rfl) (aq (au 1) (aq (dZ (aq aK (aq aK (aq aK (aq aK (aq aK (aq aK (aq aK (aq aK aM))))))))) aM))))
   (aR (bx (i:=3) j9.nd rfl (by first|exact Or.inl rfl|exact Or.inr rfl) (aU bH (au 3) (dZ (aq aK (aq aK (aq aK (aq aK (aq (aU bH (au 4) (au 5)) aM))))))))
   (aR (vO PassesOwn.never rfl (Gm (by rfl) rN (aq aP aM)) (jf (i:=6) j9.nd rfl (by first|exact Or.inl rfl|exact Or.inr rfl)) (aR (bx (i:=7) j9.nd rfl (by first|exact Or.inl rfl|exact Or.inr rfl) (rO.de hg (hr.mono (by decide)) (by rfl) (aq (au 1) (aq (Du.de hg (hr.mono (by decide)) (by rfl) (aq (au 1) (aq (au 2) (aq (aU bH aP (fX.de hg (hr.mono (by decide)) (by rfl) (aq (au 1) (aq aP aM)))) aM)))) (aq aP (aq (wj (aq aP aM)) aM))))))
   (aR (vO PassesOwn.never rfl (Gm (by rfl) rN (aq (aU bH aP (fX.de hg (hr.mono (by decide)) (by rfl) (aq (au 1) (aq aP aM)))) aM)) (jf (i:=8) j9.nd rfl (by first|exact Or.inl rfl|exact Or.inr rfl)) (aW (bx (i:=7) j9.nd rfl (by first|exact Or.inl rfl|exact Or.inr rfl) (Oz.de hg (hr.mono (by decide)) (by rfl) (aq (au 1) (aq (au 7) aM))))))
   (aR (bx (i:=9) j9.nd rfl (by first|exact Or.inl rfl|exact Or.inr rfl) (OD.de hg (hr.mono (by decide)) (by rfl) (aq (au 1) (aq (au 7) aM))))
   (aR (bx (i:=10) j9.nd rfl (by first|exact Or.inl rfl|exact Or.inr rfl) (OJ.de hg (hr.mono (by decide)) (by rfl) (aq (au 1) aM)))
   (aR (bx (i:=3) j9.nd rfl (by first|exact Or.inl rfl|exact Or.inr rfl) (aU bH (au 3) (dZ (aq (au 9) (aq (Ay.de hg (hr.mono (by decide)) (by rfl) (aq (au 1) (aq (au 9) aM))) (aq (Ay.de hg (hr.mono (by decide)) (by rfl) (aq (au 1) (aq (Ay.de hg (hr.mono (by decide)) (by rfl) (aq (au 1) (aq (au 9) aM))) aM))) (aq (au 10) aM)))))))
   (aR (bx (i:=11) j9.nd rfl (by first|exact Or.inl rfl|exact Or.inr rfl) (aU bH aP (aU qU (au 6) aP)))
   (aW (bx (i:=3) j9.nd rfl (by first|exact Or.inl rfl|exact Or.inr rfl) (aU bH (au 3) (dZ (aq (Ay.de hg (hr.mono (by decide)) (by rfl) (aq (au 1) (aq (au 10) aM))) (aq (aU bH (aU bH (aU Gz aK (au 11)) aK) (aU Gz aK (au 11))) aM)))))))))))))
   (aR (vO PassesOwn.never rfl (v8 (au 3)) (jf (i:=9) j9.nd rfl (by first|exact Or.inl rfl|exact Or.inr rfl)) (aW (cP (adZ (Fl (O2.de hg (hr.mono (by decide)) (by rfl) (aq (O5.de hg (hr.mono (by decide)) (by rfl) (aq (au 9) (aq (au 2) aM))) (aq (O4.de hg (hr.mono (by decide)) (by rfl) (aq (au 9) (aq (au 2) aM))) aM))))) (aW (b_ CK)) cW)))
   (aW (b_ CK)))))))))))) pure_law
theorem all_mk {P:Program} {w:World} {K:PySem.W.Frag} {h:Heap} {mg:Str→Option Value} {fa:Addr} (X:K.In h) (G:h.Ns mainGlobals mg) (hfa:mg "law" =some (.ref fa))
  {d7:Addr}
  {vL:Addr}
  {O6:Addr}
  {O7:Addr}
  {O8:Addr}
  {O9:Addr}
  {O_:Addr}
  {Pa:Addr}
  {Pb:Addr}
  {Ph:Addr}
  {Pj:Addr}
  {Pn:Addr}
  {Pq:Addr}
  {Pr:Addr}
  {Pu:Addr}
  {Px:Addr}
  {ZQ:Str} {ZR:Str} {ZS:Addr} {ZV:List Value} {Py:List Value} {ZW:List Str} {ZX:List Value} {Z0:Bool} {Z4:Option Bool} {Z5:Option Addr} {Z6:Option Value} {Z7:Option Value} {Z8:Option Value} {Z9:Option Value} {Z_:Option Value}
  {gD:Addr}
  {oV:Addr}
  {f0:Addr} {od0 an0:Option Addr} {sl0:Array (Option Value)} {oc0 kV0 dc0 pm0 cd0 ct0:Value}
  {f1:Addr} {od1 an1:Option Addr} {sl1:Array (Option Value)} {oc1 kV1 dc1 pm1 cd1 ct1:Value}
  {f2:Addr} {od2 an2:Option Addr} {sl2:Array (Option Value)} {oc2 kV2 dc2 pm2 cd2 ct2:Value}
  {f3:Addr} {od3 an3:Option Addr} {sl3:Array (Option Value)} {oc3 kV3 dc3 pm3 cd3 ct3:Value}
  {f4:Addr} {od4 an4:Option Addr} {sl4:Array (Option Value)} {oc4 kV4 dc4 pm4 cd4 ct4:Value}
  {f5:Addr} {od5 an5:Option Addr} {sl5:Array (Option Value)} {oc5 kV5 dc5 pm5 cd5 ct5:Value}
  {f6:Addr} {od6 an6:Option Addr} {sl6:Array (Option Value)} {oc6 kV6 dc6 pm6 cd6 ct6:Value}
  {f7:Addr} {od7 an7:Option Addr} {sl7:Array (Option Value)} {oc7 kV7 dc7 pm7 cd7 ct7:Value}
  {f8:Addr} {od8 an8:Option Addr} {sl8:Array (Option Value)} {oc8 kV8 dc8 pm8 cd8 ct8:Value}
  {f9:Addr} {od9 an9:Option Addr} {sl9:Array (Option Value)} {oc9 kV9 dc9 pm9 cd9 ct9:Value}
  {f10:Addr} {aiN aiO:Option Addr} {aiP:Array (Option Value)} {aiQ aiR aiS aiT aac aiU:Value}
  {f11:Addr} {aiV aiW:Option Addr} {aiX:Array (Option Value)} {aiY aiZ ai0 ai1 aad ai2:Value}
  {f12:Addr} {ai3 ai4:Option Addr} {ai5:Array (Option Value)} {ai6 ai7 ai8 ai9 aae ai_:Value}
  {f13:Addr} {aja ajb:Option Addr} {ajc:Array (Option Value)} {ajd aje ajf ajg aaf ajh:Value}
  {f14:Addr} {aji ajj:Option Addr} {ajk:Array (Option Value)} {ajl ajm ajn ajo aag ajp:Value}
  {f15:Addr} {ajq ajr:Option Addr} {ajs:Array (Option Value)} {ajt aju ajv ajw aah ajx:Value}
  {f16:Addr} {ajy ajz:Option Addr} {ajA:Array (Option Value)} {ajB ajC ajD ajE aai ajF:Value}
  {f17:Addr} {ajG aaj:Option Addr} {ajH:Array (Option Value)} {ajI aak aal aam PB aan:Value}
  {f18:Addr} {ajJ aao:Option Addr} {ajK:Array (Option Value)} {ajL aap aaq aar PL aas:Value}
  {f19:Addr} {ajM aat:Option Addr} {ajN:Array (Option Value)} {ajO aau aav aaw PN aax:Value}
  {f20:Addr} {ajP aay:Option Addr} {ajQ:Array (Option Value)} {ajR aaz aaA aaB P0 aaC:Value}
  {f21:Addr} {ajS ajT:Option Addr} {ajU:Array (Option Value)} {ajV ajW ajX ajY aaD ajZ:Value}
  {f22:Addr} {aj0 aj1:Option Addr} {aj2:Array (Option Value)} {aj3 aj4 aj5 aj6 aaE aj7:Value}
  {f23:Addr} {aj8 aj9:Option Addr} {aj_:Array (Option Value)} {akb akc akd ake aaF akf:Value}
  {f24:Addr} {akg akh:Option Addr} {aki:Array (Option Value)} {akj akk akl akm aaG akn:Value}
  {f25:Addr} {ako akp:Option Addr} {akq:Array (Option Value)} {akr aks akt aku aaH akv:Value}
  {f26:Addr} {akx aky:Option Addr} {akz:Array (Option Value)} {akA akB akC akD aaI akE:Value}
  {f27:Addr} {akF akG:Option Addr} {akH:Array (Option Value)} {akI akJ akK akL aaJ akM:Value}
  {f28:Addr} {akN akO:Option Addr} {akP:Array (Option Value)} {akQ akR akS akT aaK akU:Value}
  {f29:Addr} {akV akW:Option Addr} {akX:Array (Option Value)} {akY akZ ak0 ak1 aaL ak2:Value}
  {f30:Addr} {ak3 ak4:Option Addr} {ak5:Array (Option Value)} {ak6 ak7 ak8 ak9 aaM ak_:Value}
  {f31:Addr} {ala alb:Option Addr} {alc:Array (Option Value)} {ald ale alf alg aaN alh:Value}
  {f32:Addr} {ali alj:Option Addr} {alk:Array (Option Value)} {alm aln alo alp aaO alq:Value}
  {f33:Addr} {alr als:Option Addr} {alu:Array (Option Value)} {alv alw alx aly aaP alz:Value}
  {T33:Addr} {alA:Value} {alB:Option Addr} {alC:Nat} {alD:Array (Option Value)}
  {f34:Addr} {alE alF:Option Addr} {alG:Array (Option Value)} {alH alI alJ alK aaQ alL:Value}
  {f35:Addr} {alM aaR:Option Addr} {alN:Array (Option Value)} {alO aaS aaT aaU P_ aaV:Value}
  {f36:Addr} {alP aaW:Option Addr} {alQ:Array (Option Value)} {alR aaX aaY aaZ Qa aa0:Value}
  {f37:Addr} {alS aa1:Option Addr} {alT:Array (Option Value)} {alU aa2 aa3 aa4 Qc aa5:Value}
  {f38:Addr} {alV aa6:Option Addr} {alW:Array (Option Value)} {alX aa7 aa8 aa9 Qe aa_:Value}
  {f39:Addr} {alY abb:Option Addr} {alZ:Array (Option Value)} {al0 abd abe abf Qg abg:Value}
  {f40:Addr} {al1 abh:Option Addr} {al2:Array (Option Value)} {al3 abj abk abl Qh abm:Value}
  {f41:Addr} {al4 abn:Option Addr} {al5:Array (Option Value)} {al6 abo abp abq Qi abr:Value}
  {f42:Addr} {al7 abt:Option Addr} {al8:Array (Option Value)} {al9 abu abv abw Ql abx:Value}
  {f43:Addr} {al_ ama:Option Addr} {amb:Array (Option Value)} {amc amd ame amf aby amg:Value}
  {f44:Addr} {amh ami:Option Addr} {amj:Array (Option Value)} {amk aml amm amn abz amo:Value}
  {f45:Addr} {amq amr:Option Addr} {ams:Array (Option Value)} {amt amu amv amw abA amx:Value}
  {f46:Addr} {amy amA:Option Addr} {amB:Array (Option Value)} {amC amD amE amF abB amG:Value}
  {f47:Addr} {amH abC:Option Addr} {amI:Array (Option Value)} {amJ abD abE abF Qm abG:Value}
  {abH:Tok}
  {abI:Tok}
  {IK:Addr} {amK:Nat} {amL:Array (Option Value)} {amM amN amO amP amQ amR amS amT amU amV amW amX amY amZ am0 am1:Tok}
  {abJ:Tok}
  {abK:Tok}
  {IV:Addr} {am2:Nat} {am3:Array (Option Value)} {am4 am5 am6 am7 am8 am9 am_ ana anb anc ane anf ang anh:Tok}
  {abL:Tok}
  {abM:Tok}
  {abN:Tok}
  {IW:Addr} {ani:Nat} {anj:Array (Option Value)} {ank anl anm ano anp anq:Tok}
  (iy:PySem.W.nsIn K mainGlobals "SyntaxProblem" =some (some (.ref d7)))
  (Az:PySem.W.nsIn K mainGlobals "LimitRunError" =some (some (.ref vL)))
  (DY:PySem.W.nsIn K mainGlobals "BadClaim" =some (some (.ref O6)))
  (D_:PySem.W.nsIn K mainGlobals "BadPath" =some (some (.ref O7)))
  (Ea:PySem.W.nsIn K mainGlobals "Incompatible" =some (some (.ref O8)))
  (Eb:PySem.W.nsIn K mainGlobals "InvalidCommand" =some (some (.ref O9)))
  (Ec:PySem.W.nsIn K mainGlobals "InvalidOrdinal" =some (some (.ref O_)))
  (Ed:PySem.W.nsIn K mainGlobals "NoBreakpoint" =some (some (.ref Pa)))
  (Ef:PySem.W.nsIn K mainGlobals "NoEvent" =some (some (.ref Pb)))
  (Eh:PySem.W.nsIn K mainGlobals "NoMark" =some (some (.ref Ph)))
  (Ei:PySem.W.nsIn K mainGlobals "NoVariable" =some (some (.ref Pj)))
  (Ek:PySem.W.nsIn K mainGlobals "NotLater" =some (some (.ref Pn)))
  (El:PySem.W.nsIn K mainGlobals "NotReached" =some (some (.ref Pq)))
  (Em:PySem.W.nsIn K mainGlobals "OutOfRange" =some (some (.ref Pr)))
  (En:PySem.W.nsIn K mainGlobals "TooLong" =some (some (.ref Pu)))
  (Eo:PySem.W.nsIn K mainGlobals "ZeroDivisor" =some (some (.ref Px)))
  (Qn:K.lookup d7=some (excClassObj ZQ ZR d7 ZS ZV Py true ZW ZX Z0 Z4 Z5 Z6 Z7 Z8 Z9 Z_ "ValueError.__new__"))
  (Qo:PySem.HandSPX.refsVE Py=true)
  (Qp:PySem.W.findIn K (.ref d7) "__setattr__" =some (some (.builtin "object.__setattr__")))
  (Qq:PySem.W.subIn K (.ref d7) (.type "BaseException")=some true)
  (Qs:PySem.W.typeIn K (.ref d7)=some (.type "type"))
  (Qt:PySem.W.keepIn K (.ref d7)=true)
  (Qu:PySem.W.findIn K (.ref d7) "line" =some none)
  (Qw:PySem.W.findIn K (.ref d7) "column" =some none)
  (Qx:PySem.W.specialIn K (.ref vL) "__getattribute__" =some (some (.builtin "type.__getattribute__")))
  (Qy:PySem.W.readsIn K vL (.type "type")=true)
  (Qz:PySem.W.findCls K (.ref vL) (.type "type") "__init__" =some (.val (.builtin "ValueError.__init__")))
  (QC:PySem.W.findIn K (.ref d7) "__getattribute__" =some (some (.builtin "BaseException.__getattribute__")))
  (QD:PySem.W.findIn K (.ref d7) "__getattr__" =some none)
  (QF:PySem.W.subIn K (.ref d7) (.type "BaseException")=some true)
  (QG:PySem.W.hasDictIn K d7=true)
  (QJ:PySem.W.findIn K (.ref d7) "column" =some none)
  (QK:PySem.W.findIn K (.ref d7) "__getattribute__" =some (some (.builtin "BaseException.__getattribute__")))
  (QL:PySem.W.findIn K (.ref d7) "__getattr__" =some none)
  (QM:PySem.W.subIn K (.ref d7) (.type "BaseException")=some true)
  (QS:PySem.W.hasDictIn K d7=true)
  (QT:PySem.W.findIn K (.ref d7) "line" =some none)
  (QV:PySem.W.exmOne K (.ref d7) (.ref vL)=some true)
  (QW:PySem.W.findIn K (.ref d7) "__getattribute__" =some (some (.builtin "BaseException.__getattribute__")))
  (QX:PySem.W.findIn K (.ref d7) "__getattr__" =some none)
  (QZ:PySem.W.subIn K (.ref d7) (.type "BaseException")=some true)
  (Q5:PySem.W.hasDictIn K d7=true)
  (Q6:PySem.W.findIn K (.ref d7) "__class__" =some (some (.builtin "object.__class__")))
  (Q7:PySem.W.specialIn K (.builtin "object.__class__") "__get__" =some (some (.builtin "getset_descriptor.__get__")))
  (Q8:PySem.W.takesIn K (.builtin "object.__class__")=some true)
  (Q9:PySem.W.mroIn K d7 (.type "object")=some true)
  (Q_:PySem.W.kitOne K (.ref d7) (.ref O6)=some false)
  (Ra:PySem.W.kitOne K (.ref d7) (.ref O7)=some false)
  (Rb:PySem.W.kitOne K (.ref d7) (.ref O8)=some false)
  (Rf:PySem.W.kitOne K (.ref d7) (.ref O9)=some false)
  (Rg:PySem.W.kitOne K (.ref d7) (.ref O_)=some false)
  (Rh:PySem.W.kitOne K (.ref d7) (.ref Pa)=some false)
  (Ri:PySem.W.kitOne K (.ref d7) (.ref Pb)=some false)
  (Rj:PySem.W.kitOne K (.ref d7) (.ref Ph)=some false)
  (Rk:PySem.W.kitOne K (.ref d7) (.ref Pj)=some false)
  (Rm:PySem.W.kitOne K (.ref d7) (.ref Pn)=some false)
  (Ro:PySem.W.kitOne K (.ref d7) (.ref Pq)=some false)
  (Rp:PySem.W.kitOne K (.ref d7) (.ref Pr)=some false)
  (Rq:PySem.W.kitOne K (.ref d7) (.ref d7)=some true)
  (Rr:PySem.W.kitOne K (.ref d7) (.ref Pu)=some false)
  (Rv:PySem.W.kitOne K (.ref d7) (.ref Px)=some false)
  (Rw:PySem.W.kitOne K (.ref d7) (.type "ValueError")=some true)
  (gG:PySem.W.nsIn K mainGlobals "LineParser" =some (some (.ref gD)))
  (Rx:PySem.W.plainGet K gD Str.empty=true)
  (Ry:PySem.W.hasDictIn K gD=true)
  (Rz:PySem.W.plainOver K gD=true)
  (RG:PySem.W.findIn K (.ref gD) "__setattr__" =some (some (.builtin "object.__setattr__")))
  (RJ:PySem.W.makesIn K gD=true)
  (RK:PySem.W.keepIn K (.ref gD)=true)
  (RL:PySem.W.findIn K (.ref gD) "depth" =some none)
  (RM:PySem.W.findIn K (.ref gD) "index" =some none)
  (RN:PySem.W.findIn K (.ref gD) "names" =some none)
  (RP:PySem.W.findIn K (.ref gD) "number" =some none)
  (RQ:PySem.W.findIn K (.ref gD) "tokens" =some none)
  (xq:PySem.W.nsIn K mainGlobals "Token" =some (some (.ref oV)))
  (RW:PySem.W.plainGet K oV Str.empty=true)
  (R4:PySem.W.hasDictIn K oV=true)
  (R5:PySem.W.plainOver K oV=true)
  (R6:PySem.W.findIn K (.ref oV) "__setattr__" =some (some (.builtin "object.__setattr__")))
  (R7:PySem.W.makesIn K oV=true)
  (R8:PySem.W.keepIn K (.ref oV)=true)
  (R9:PySem.W.findIn K (.ref oV) "column" =some none)
  (R_:PySem.W.findIn K (.ref oV) "kind" =some none)
  (Sd:PySem.W.findIn K (.ref oV) "text" =some none)
  (a0:PySem.W.nsIn K mainGlobals "_law_source" =some (some (.ref f0)))
  (l0:K.lookup f0=some ⟨oc0,od0,.func (PySem.W.fnOf "_law_source" "_law_source" (defArgs wX) (defBody wX) (defScope wX) .none kV0 dc0 pm0 an0 cd0 ct0),sl0⟩)
  (c0:PySem.W.codeIn K cd0 "_law_source" =true)
  (k0:PySem.W.keepIn K (.ref f0)=true)
  (a1:PySem.W.nsIn K mainGlobals "_law_mixed" =some (some (.ref f1)))
  (l1:K.lookup f1=some ⟨oc1,od1,.func (PySem.W.fnOf "_law_mixed" "_law_mixed" (defArgs xJ) (defBody xJ) (defScope xJ) .none kV1 dc1 pm1 an1 cd1 ct1),sl1⟩)
  (c1:PySem.W.codeIn K cd1 "_law_mixed" =true)
  (k1:PySem.W.keepIn K (.ref f1)=true)
  (a2:PySem.W.nsIn K mainGlobals "_law_pick" =some (some (.ref f2)))
  (l2:K.lookup f2=some ⟨oc2,od2,.func (PySem.W.fnOf "_law_pick" "_law_pick" (defArgs zm) (defBody zm) (defScope zm) .none kV2 dc2 pm2 an2 cd2 ct2),sl2⟩)
  (c2:PySem.W.codeIn K cd2 "_law_pick" =true)
  (k2:PySem.W.keepIn K (.ref f2)=true)
  (a3:PySem.W.nsIn K mainGlobals "_law_choose" =some (some (.ref f3)))
  (l3:K.lookup f3=some ⟨oc3,od3,.func (PySem.W.fnOf "_law_choose" "_law_choose" (defArgs yx) (defBody yx) (defScope yx) .none kV3 dc3 pm3 an3 cd3 ct3),sl3⟩)
  (c3:PySem.W.codeIn K cd3 "_law_choose" =true)
  (k3:PySem.W.keepIn K (.ref f3)=true)
  (a4:PySem.W.nsIn K mainGlobals "_law_rank" =some (some (.ref f4)))
  (l4:K.lookup f4=some ⟨oc4,od4,.func (PySem.W.fnOf "_law_rank" "_law_rank" (defArgs xW) (defBody xW) (defScope xW) .none kV4 dc4 pm4 an4 cd4 ct4),sl4⟩)
  (c4:PySem.W.codeIn K cd4 "_law_rank" =true)
  (k4:PySem.W.keepIn K (.ref f4)=true)
  (a5:PySem.W.nsIn K mainGlobals "_law_tokens_of" =some (some (.ref f5)))
  (l5:K.lookup f5=some ⟨oc5,od5,.func (PySem.W.fnOf "_law_tokens_of" "_law_tokens_of" (defArgs qp) (defBody qp) (defScope qp) .none kV5 dc5 pm5 an5 cd5 ct5),sl5⟩)
  (c5:PySem.W.codeIn K cd5 "_law_tokens_of" =true)
  (k5:PySem.W.keepIn K (.ref f5)=true)
  (a6:PySem.W.nsIn K mainGlobals "_law_expression" =some (some (.ref f6)))
  (l6:K.lookup f6=some ⟨oc6,od6,.func (PySem.W.fnOf "_law_expression" "_law_expression" (defArgs rK) (defBody rK) (defScope rK) .none kV6 dc6 pm6 an6 cd6 ct6),sl6⟩)
  (c6:PySem.W.codeIn K cd6 "_law_expression" =true)
  (k6:PySem.W.keepIn K (.ref f6)=true)
  (a7:PySem.W.nsIn K mainGlobals "_law_changed" =some (some (.ref f7)))
  (l7:K.lookup f7=some ⟨oc7,od7,.func (PySem.W.fnOf "_law_changed" "_law_changed" (defArgs yG) (defBody yG) (defScope yG) .none kV7 dc7 pm7 an7 cd7 ct7),sl7⟩)
  (c7:PySem.W.codeIn K cd7 "_law_changed" =true)
  (k7:PySem.W.keepIn K (.ref f7)=true)
  (a8:PySem.W.nsIn K mainGlobals "_law_joined" =some (some (.ref f8)))
  (l8:K.lookup f8=some ⟨oc8,od8,.func (PySem.W.fnOf "_law_joined" "_law_joined" (defArgs yO) (defBody yO) (defScope yO) .none kV8 dc8 pm8 an8 cd8 ct8),sl8⟩)
  (c8:PySem.W.codeIn K cd8 "_law_joined" =true)
  (k8:PySem.W.keepIn K (.ref f8)=true)
  (a9:PySem.W.nsIn K mainGlobals "_law_nest" =some (some (.ref f9)))
  (l9:K.lookup f9=some ⟨oc9,od9,.func (PySem.W.fnOf "_law_nest" "_law_nest" (defArgs xK) (defBody xK) (defScope xK) .none kV9 dc9 pm9 an9 cd9 ct9),sl9⟩)
  (c9:PySem.W.codeIn K cd9 "_law_nest" =true)
  (k9:PySem.W.keepIn K (.ref f9)=true)
  (a10:PySem.W.nsIn K mainGlobals "_law_deep" =some (some (.ref f10)))
  (l10:K.lookup f10=some ⟨aiQ,aiN,.func (PySem.W.fnOf "_law_deep" "_law_deep" (defArgs zV) (defBody zV) (defScope zV) .none aiR aiS aiT aiO aac aiU),aiP⟩)
  (c10:PySem.W.codeIn K aac "_law_deep" =true)
  (k10:PySem.W.keepIn K (.ref f10)=true)
  (a11:PySem.W.nsIn K mainGlobals "_law_bent" =some (some (.ref f11)))
  (l11:K.lookup f11=some ⟨aiY,aiV,.func (PySem.W.fnOf "_law_bent" "_law_bent" (defArgs zH) (defBody zH) (defScope zH) .none aiZ ai0 ai1 aiW aad ai2),aiX⟩)
  (c11:PySem.W.codeIn K aad "_law_bent" =true)
  (k11:PySem.W.keepIn K (.ref f11)=true)
  (a12:PySem.W.nsIn K mainGlobals "_law_equal" =some (some (.ref f12)))
  (l12:K.lookup f12=some ⟨ai6,ai3,.func (PySem.W.fnOf "_law_equal" "_law_equal" (defArgs yX) (defBody yX) (defScope yX) .none ai7 ai8 ai9 ai4 aae ai_),ai5⟩)
  (c12:PySem.W.codeIn K aae "_law_equal" =true)
  (k12:PySem.W.keepIn K (.ref f12)=true)
  (a13:PySem.W.nsIn K mainGlobals "_law_lexed" =some (some (.ref f13)))
  (l13:K.lookup f13=some ⟨ajd,aja,.func (PySem.W.fnOf "_law_lexed" "_law_lexed" (defArgs yh) (defBody yh) (defScope yh) .none aje ajf ajg ajb aaf ajh),ajc⟩)
  (c13:PySem.W.codeIn K aaf "_law_lexed" =true)
  (k13:PySem.W.keepIn K (.ref f13)=true)
  (a14:PySem.W.nsIn K mainGlobals "_law_stop" =some (some (.ref f14)))
  (l14:K.lookup f14=some ⟨ajl,aji,.func (PySem.W.fnOf "_law_stop" "_law_stop" (defArgs yR) (defBody yR) (defScope yR) .none ajm ajn ajo ajj aag ajp),ajk⟩)
  (c14:PySem.W.codeIn K aag "_law_stop" =true)
  (k14:PySem.W.keepIn K (.ref f14)=true)
  (a15:PySem.W.nsIn K mainGlobals "_law_accept" =some (some (.ref f15)))
  (l15:K.lookup f15=some ⟨ajt,ajq,.func (PySem.W.fnOf "_law_accept" "_law_accept" (defArgs yK) (defBody yK) (defScope yK) .none aju ajv ajw ajr aah ajx),ajs⟩)
  (c15:PySem.W.codeIn K aah "_law_accept" =true)
  (k15:PySem.W.keepIn K (.ref f15)=true)
  (a16:PySem.W.nsIn K mainGlobals "_law_demand" =some (some (.ref f16)))
  (l16:K.lookup f16=some ⟨ajB,ajy,.func (PySem.W.fnOf "_law_demand" "_law_demand" (defArgs yH) (defBody yH) (defScope yH) .none ajC ajD ajE ajz aai ajF),ajA⟩)
  (c16:PySem.W.codeIn K aai "_law_demand" =true)
  (k16:PySem.W.keepIn K (.ref f16)=true)
  (a17:PySem.W.nsIn K mainGlobals "_law_whole" =some (some (.ref f17)))
  (l17:K.lookup f17=some ⟨ajI,ajG,.func (PySem.W.fnOf "_law_whole" "_law_whole" (defArgs tR) (defBody tR) (defScope tR) .none aak aal aam aaj PB aan),ajH⟩)
  (c17:PySem.W.codeIn K PB "_law_whole" =true)
  (k17:PySem.W.keepIn K (.ref f17)=true)
  (a18:PySem.W.nsIn K mainGlobals "_law_chain" =some (some (.ref f18)))
  (l18:K.lookup f18=some ⟨ajL,ajJ,.func (PySem.W.fnOf "_law_chain" "_law_chain" (defArgs uD) (defBody uD) (defScope uD) .none aap aaq aar aao PL aas),ajK⟩)
  (c18:PySem.W.codeIn K PL "_law_chain" =true)
  (k18:PySem.W.keepIn K (.ref f18)=true)
  (a19:PySem.W.nsIn K mainGlobals "_law_under" =some (some (.ref f19)))
  (l19:K.lookup f19=some ⟨ajO,ajM,.func (PySem.W.fnOf "_law_under" "_law_under" (defArgs sS) (defBody sS) (defScope sS) .none aau aav aaw aat PN aax),ajN⟩)
  (c19:PySem.W.codeIn K PN "_law_under" =true)
  (k19:PySem.W.keepIn K (.ref f19)=true)
  (a20:PySem.W.nsIn K mainGlobals "_law_factor" =some (some (.ref f20)))
  (l20:K.lookup f20=some ⟨ajR,ajP,.func (PySem.W.fnOf "_law_factor" "_law_factor" (defArgs rZ) (defBody rZ) (defScope rZ) .none aaz aaA aaB aay P0 aaC),ajQ⟩)
  (c20:PySem.W.codeIn K P0 "_law_factor" =true)
  (k20:PySem.W.keepIn K (.ref f20)=true)
  (a21:PySem.W.nsIn K mainGlobals "_law_parsed" =some (some (.ref f21)))
  (l21:K.lookup f21=some ⟨ajV,ajS,.func (PySem.W.fnOf "_law_parsed" "_law_parsed" (defArgs zu) (defBody zu) (defScope zu) .none ajW ajX ajY ajT aaD ajZ),ajU⟩)
  (c21:PySem.W.codeIn K aaD "_law_parsed" =true)
  (k21:PySem.W.keepIn K (.ref f21)=true)
  (a22:PySem.W.nsIn K mainGlobals "_law_expected" =some (some (.ref f22)))
  (l22:K.lookup f22=some ⟨aj3,aj0,.func (PySem.W.fnOf "_law_expected" "_law_expected" (defArgs Ac) (defBody Ac) (defScope Ac) .none aj4 aj5 aj6 aj1 aaE aj7),aj2⟩)
  (c22:PySem.W.codeIn K aaE "_law_expected" =true)
  (k22:PySem.W.keepIn K (.ref f22)=true)
  (a23:PySem.W.nsIn K mainGlobals "end_of_run" =some (some (.ref f23)))
  (l23:K.lookup f23=some ⟨akb,aj8,.func (PySem.W.fnOf "end_of_run" "end_of_run" (defArgs yr) (defBody yr) (defScope yr) .none akc akd ake aj9 aaF akf),aj_⟩)
  (c23:PySem.W.codeIn K aaF "end_of_run" =true)
  (k23:PySem.W.keepIn K (.ref f23)=true)
  (a24:PySem.W.findIn K (.ref d7) "__init__" =some (some (.ref f24)))
  (i24:PySem.W.isFn K (.ref f24)=true)
  (l24:K.lookup f24=some ⟨akj,akg,.func (PySem.W.fnOf "__init__" "SyntaxProblem.__init__" (defArgs yL) (defBody yL) (defScope yL) .none akk akl akm akh aaG akn),aki⟩)
  (c24:PySem.W.codeIn K aaG "SyntaxProblem.__init__" =true)
  (k24:PySem.W.keepIn K (.ref f24)=true)
  (a25:PySem.W.findIn K (.ref oV) "__init__" =some (some (.ref f25)))
  (i25:PySem.W.isFn K (.ref f25)=true)
  (l25:K.lookup f25=some ⟨akr,ako,.func (PySem.W.fnOf "__init__" "Token.__init__" (defArgs yM) (defBody yM) (defScope yM) .none aks akt aku akp aaH akv),akq⟩)
  (c25:PySem.W.codeIn K aaH "Token.__init__" =true)
  (k25:PySem.W.keepIn K (.ref f25)=true)
  (a26:PySem.W.nsIn K mainGlobals "token_at" =some (some (.ref f26)))
  (l26:K.lookup f26=some ⟨akA,akx,.func (PySem.W.fnOf "token_at" "token_at" (defArgs z8) (defBody z8) (defScope z8) .none akB akC akD aky aaI akE),akz⟩)
  (c26:PySem.W.codeIn K aaI "token_at" =true)
  (k26:PySem.W.keepIn K (.ref f26)=true)
  (a27:PySem.W.nsIn K mainGlobals "tokens_of" =some (some (.ref f27)))
  (l27:K.lookup f27=some ⟨akI,akF,.func (PySem.W.fnOf "tokens_of" "tokens_of" (defArgs xO) (defBody xO) (defScope xO) .none akJ akK akL akG aaJ akM),akH⟩)
  (c27:PySem.W.codeIn K aaJ "tokens_of" =true)
  (k27:PySem.W.keepIn K (.ref f27)=true)
  (a28:PySem.W.findIn K (.ref gD) "__init__" =some (some (.ref f28)))
  (i28:PySem.W.isFn K (.ref f28)=true)
  (l28:K.lookup f28=some ⟨akQ,akN,.func (PySem.W.fnOf "__init__" "LineParser.__init__" (defArgs zp) (defBody zp) (defScope zp) .none akR akS akT akO aaK akU),akP⟩)
  (c28:PySem.W.codeIn K aaK "LineParser.__init__" =true)
  (k28:PySem.W.keepIn K (.ref f28)=true)
  (a29:PySem.W.findIn K (.ref gD) "peek" =some (some (.ref f29)))
  (i29:PySem.W.isFn K (.ref f29)=true)
  (l29:K.lookup f29=some ⟨akY,akV,.func (PySem.W.fnOf "peek" "LineParser.peek" (defArgs zR) (defBody zR) (defScope zR) .none akZ ak0 ak1 akW aaL ak2),akX⟩)
  (c29:PySem.W.codeIn K aaL "LineParser.peek" =true)
  (k29:PySem.W.keepIn K (.ref f29)=true)
  (a30:PySem.W.findIn K (.ref gD) "fail" =some (some (.ref f30)))
  (i30:PySem.W.isFn K (.ref f30)=true)
  (l30:K.lookup f30=some ⟨ak6,ak3,.func (PySem.W.fnOf "fail" "LineParser.fail" (defArgs yC) (defBody yC) (defScope yC) .none ak7 ak8 ak9 ak4 aaM ak_),ak5⟩)
  (c30:PySem.W.codeIn K aaM "LineParser.fail" =true)
  (k30:PySem.W.keepIn K (.ref f30)=true)
  (a31:PySem.W.findIn K (.ref gD) "enter" =some (some (.ref f31)))
  (i31:PySem.W.isFn K (.ref f31)=true)
  (l31:K.lookup f31=some ⟨ald,ala,.func (PySem.W.fnOf "enter" "LineParser.enter" (defArgs yZ) (defBody yZ) (defScope yZ) .none ale alf alg alb aaN alh),alc⟩)
  (c31:PySem.W.codeIn K aaN "LineParser.enter" =true)
  (k31:PySem.W.keepIn K (.ref f31)=true)
  (a32:PySem.W.findIn K (.ref gD) "accept" =some (some (.ref f32)))
  (i32:PySem.W.isFn K (.ref f32)=true)
  (l32:K.lookup f32=some ⟨alm,ali,.func (PySem.W.fnOf "accept" "LineParser.accept" (defArgs yt) (defBody yt) (defScope yt) .none aln alo alp alj aaO alq),alk⟩)
  (c32:PySem.W.codeIn K aaO "LineParser.accept" =true)
  (k32:PySem.W.keepIn K (.ref f32)=true)
  (a33:PySem.W.findIn K (.ref gD) "take" =some (some (.ref f33)))
  (i33:PySem.W.isFn K (.ref f33)=true)
  (l33:K.lookup f33=some ⟨alv,alr,.func (PySem.W.fnOf "take" "LineParser.take" (defArgs xU) (defBody xU) (defScope xU) (.ref T33) alw alx aly als aaP alz),alu⟩)
  (t33:K.lookup T33=some ⟨alA,alB,.seq #[.none] alC,alD⟩)
  (c33:PySem.W.codeIn K aaP "LineParser.take" =true)
  (k33:PySem.W.keepIn K (.ref f33)=true)
  (a34:PySem.W.findIn K (.ref gD) "product_operator" =some (some (.ref f34)))
  (i34:PySem.W.isFn K (.ref f34)=true)
  (l34:K.lookup f34=some ⟨alH,alE,.func (PySem.W.fnOf "product_operator" "LineParser.product_operator" (defArgs zF) (defBody zF) (defScope zF) .none alI alJ alK alF aaQ alL),alG⟩)
  (c34:PySem.W.codeIn K aaQ "LineParser.product_operator" =true)
  (k34:PySem.W.keepIn K (.ref f34)=true)
  (a35:PySem.W.findIn K (.ref gD) "expression" =some (some (.ref f35)))
  (i35:PySem.W.isFn K (.ref f35)=true)
  (l35:K.lookup f35=some ⟨alO,alM,.func (PySem.W.fnOf "expression" "LineParser.expression" (defArgs tG) (defBody tG) (defScope tG) .none aaS aaT aaU aaR P_ aaV),alN⟩)
  (c35:PySem.W.codeIn K P_ "LineParser.expression" =true)
  (k35:PySem.W.keepIn K (.ref f35)=true)
  (a36:PySem.W.findIn K (.ref gD) "disjunction" =some (some (.ref f36)))
  (i36:PySem.W.isFn K (.ref f36)=true)
  (l36:K.lookup f36=some ⟨alR,alP,.func (PySem.W.fnOf "disjunction" "LineParser.disjunction" (defArgs sU) (defBody sU) (defScope sU) .none aaX aaY aaZ aaW Qa aa0),alQ⟩)
  (c36:PySem.W.codeIn K Qa "LineParser.disjunction" =true)
  (k36:PySem.W.keepIn K (.ref f36)=true)
  (a37:PySem.W.findIn K (.ref gD) "conjunction" =some (some (.ref f37)))
  (i37:PySem.W.isFn K (.ref f37)=true)
  (l37:K.lookup f37=some ⟨alU,alS,.func (PySem.W.fnOf "conjunction" "LineParser.conjunction" (defArgs tW) (defBody tW) (defScope tW) .none aa2 aa3 aa4 aa1 Qc aa5),alT⟩)
  (c37:PySem.W.codeIn K Qc "LineParser.conjunction" =true)
  (k37:PySem.W.keepIn K (.ref f37)=true)
  (a38:PySem.W.findIn K (.ref gD) "negation" =some (some (.ref f38)))
  (i38:PySem.W.isFn K (.ref f38)=true)
  (l38:K.lookup f38=some ⟨alX,alV,.func (PySem.W.fnOf "negation" "LineParser.negation" (defArgs tH) (defBody tH) (defScope tH) .none aa7 aa8 aa9 aa6 Qe aa_),alW⟩)
  (c38:PySem.W.codeIn K Qe "LineParser.negation" =true)
  (k38:PySem.W.keepIn K (.ref f38)=true)
  (a39:PySem.W.findIn K (.ref gD) "comparison" =some (some (.ref f39)))
  (i39:PySem.W.isFn K (.ref f39)=true)
  (l39:K.lookup f39=some ⟨al0,alY,.func (PySem.W.fnOf "comparison" "LineParser.comparison" (defArgs ug) (defBody ug) (defScope ug) .none abd abe abf abb Qg abg),alZ⟩)
  (c39:PySem.W.codeIn K Qg "LineParser.comparison" =true)
  (k39:PySem.W.keepIn K (.ref f39)=true)
  (a40:PySem.W.findIn K (.ref gD) "addition" =some (some (.ref f40)))
  (i40:PySem.W.isFn K (.ref f40)=true)
  (l40:K.lookup f40=some ⟨al3,al1,.func (PySem.W.fnOf "addition" "LineParser.addition" (defArgs rY) (defBody rY) (defScope rY) .none abj abk abl abh Qh abm),al2⟩)
  (c40:PySem.W.codeIn K Qh "LineParser.addition" =true)
  (k40:PySem.W.keepIn K (.ref f40)=true)
  (a41:PySem.W.findIn K (.ref gD) "product" =some (some (.ref f41)))
  (i41:PySem.W.isFn K (.ref f41)=true)
  (l41:K.lookup f41=some ⟨al6,al4,.func (PySem.W.fnOf "product" "LineParser.product" (defArgs su) (defBody su) (defScope su) .none abo abp abq abn Qi abr),al5⟩)
  (c41:PySem.W.codeIn K Qi "LineParser.product" =true)
  (k41:PySem.W.keepIn K (.ref f41)=true)
  (a42:PySem.W.findIn K (.ref gD) "factor" =some (some (.ref f42)))
  (i42:PySem.W.isFn K (.ref f42)=true)
  (l42:K.lookup f42=some ⟨al9,al7,.func (PySem.W.fnOf "factor" "LineParser.factor" (defArgs sE) (defBody sE) (defScope sE) .none abu abv abw abt Ql abx),al8⟩)
  (c42:PySem.W.codeIn K Ql "LineParser.factor" =true)
  (k42:PySem.W.keepIn K (.ref f42)=true)
  (a43:PySem.W.findIn K (.ref gD) "whole" =some (some (.ref f43)))
  (i43:PySem.W.isFn K (.ref f43)=true)
  (l43:K.lookup f43=some ⟨amc,al_,.func (PySem.W.fnOf "whole" "LineParser.whole" (defArgs zQ) (defBody zQ) (defScope zQ) .none amd ame amf ama aby amg),amb⟩)
  (c43:PySem.W.codeIn K aby "LineParser.whole" =true)
  (k43:PySem.W.keepIn K (.ref f43)=true)
  (a44:PySem.W.nsIn K mainGlobals "parse_expression" =some (some (.ref f44)))
  (l44:K.lookup f44=some ⟨amk,amh,.func (PySem.W.fnOf "parse_expression" "parse_expression" (defArgs vZ) (defBody vZ) (defScope vZ) .none aml amm amn ami abz amo),amj⟩)
  (c44:PySem.W.codeIn K abz "parse_expression" =true)
  (k44:PySem.W.keepIn K (.ref f44)=true)
  (a45:PySem.W.nsIn K mainGlobals "_law_is_problem" =some (some (.ref f45)))
  (l45:K.lookup f45=some ⟨amt,amq,.func (PySem.W.fnOf "_law_is_problem" "_law_is_problem" (defArgs xr) (defBody xr) (defScope xr) .none amu amv amw amr abA amx),ams⟩)
  (c45:PySem.W.codeIn K abA "_law_is_problem" =true)
  (k45:PySem.W.keepIn K (.ref f45)=true)
  (a46:PySem.W.nsIn K mainGlobals "_law_outcome" =some (some (.ref f46)))
  (l46:K.lookup f46=some ⟨amC,amy,.func (PySem.W.fnOf "_law_outcome" "_law_outcome" (defArgs zX) (defBody zX) (defScope zX) .none amD amE amF amA abB amG),amB⟩)
  (c46:PySem.W.codeIn K abB "_law_outcome" =true)
  (k46:PySem.W.keepIn K (.ref f46)=true)
  (a47:PySem.W.nsIn K mainGlobals "law" =some (some (.ref f47)))
  (l47:K.lookup f47=some ⟨amJ,amH,.func (PySem.W.fnOf "law" "law" (defArgs sG) (defBody sG) (defScope sG) .none abD abE abF abC Qm abG),amI⟩)
  (c47:PySem.W.codeIn K Qm "law" =true)
  (k47:PySem.W.keepIn K (.ref f47)=true)
  (Sh:PySem.W.nsIn K mainGlobals "abs" =some none)
  (Sq:PySem.W.nsIn K mainGlobals "enumerate" =some none)
  (Ss:PySem.W.nsIn K mainGlobals "range" =some none)
  (Sv:PySem.W.nsIn K mainGlobals "len" =some none)
  (Sw:PySem.W.nsIn K mainGlobals "int" =some none)
  (Sy:PySem.W.nsIn K mainGlobals "str" =some none)
  (SJ:PySem.W.nsIn K mainGlobals "max" =some none)
  (SM:PySem.W.nsIn K mainGlobals "list" =some none)
  (SN:PySem.W.nsIn K mainGlobals "repr" =some none)
  (SQ:PySem.W.nsIn K mainGlobals "isinstance" =some none)
  (S7:PySem.W.nsIn K mainGlobals "ValueError" =some none)
  (S8:PySem.W.nsIn K mainGlobals "SMALL" =some (some (.str "abcdefghijklmnopqrstuvwxyz" abH)))
  (S9:PySem.W.nsIn K mainGlobals "DIGITS" =some (some (.str "0123456789" abI)))
  (S_:PySem.W.nsIn K mainGlobals "KEYWORDS" =some (some (.ref IK))) (Tc:K.lookup IK=some ⟨.type "tuple",none,.seq #[.str "var" amM,.str "limit" amN,.str "low" amO,.str "high" amP,.str "keep" amQ,.str "set" amR,.str "halt" amS,.str "not" amT,.str "and" amU,.str "or" amV,.str "mod" amW,.str "if" amX,.str "then" amY,.str "else" amZ,.str "min" am0,.str "max" am1] amK,amL⟩)
  (Td:PySem.W.nsIn K mainGlobals "MAX_NAME" =some (some (.int 8 abJ)))
  (Tf:PySem.W.nsIn K mainGlobals "MAX_DIGITS" =some (some (.int 6 abK)))
  (Tg:PySem.W.nsIn K mainGlobals "SYMBOLS" =some (some (.ref IV))) (Tj:K.lookup IV=some ⟨.type "tuple",none,.seq #[.str ".." am4,.str ":=" am5,.str "!=" am6,.str "<=" am7,.str ">=" am8,.str "+" am9,.str "-" am_,.str "*" ana,.str "=" anb,.str "<" anc,.str ">" ane,.str "(" anf,.str ")" ang,.str "," anh] am2,am3⟩)
  (Tn:PySem.W.nsIn K mainGlobals "MAX_TOKENS" =some (some (.int 120 abL)))
  (Tp:PySem.W.nsIn K mainGlobals "END" =some (some (.str "end" abM)))
  (Tq:PySem.W.nsIn K mainGlobals "MAX_DEPTH" =some (some (.int 30 abN)))
  (Tr:PySem.W.nsIn K mainGlobals "COMPARISONS" =some (some (.ref IW))) (Tt:K.lookup IW=some ⟨.type "tuple",none,.seq #[.str "=" ank,.str "!=" anl,.str "<" anm,.str "<=" ano,.str ">" anp,.str ">=" anq] ani,anj⟩)
  : ∃fd:FuncData,(∀(s:Shared) (u:Value),BindsTo s fd ⟨[u],[]⟩ [("script",u)])∧ ∀base:Heap,K.In base→base.Ns mainGlobals mg→bM P w K mg base CX0 306 fa fd ["script"] (dO K sp_law):=by
 have e:=hfa.symm.trans (PySem.W.mg_of X G a47)
 cases e
 have Im:=PySem.W.mg_none_of X G Sh
 have Mr:=PySem.W.mg_none_of X G Sq
 have rN:=PySem.W.mg_none_of X G Ss
 have fJ:=PySem.W.mg_none_of X G Sv
 have oR:=PySem.W.mg_none_of X G Sw
 have Mv:=PySem.W.mg_none_of X G Sy
 have Mw:=PySem.W.mg_none_of X G SJ
 have Mz:=PySem.W.mg_none_of X G SM
 have Ip:=PySem.W.mg_none_of X G SN
 have Av:=PySem.W.mg_none_of X G SQ
 have NT:=PySem.W.mg_none_of X G S7
 have iz:Cls K gD:=⟨Rx,Ry,Rz,RG⟩
 have lX:fB K "LineParser" "depth" :=⟨fun C hC=>by cases hC.symm.trans gG;exact⟨iz,RL⟩⟩
 have lW:fB K "LineParser" "index" :=⟨fun C hC=>by cases hC.symm.trans gG;exact⟨iz,RM⟩⟩
 have Aq:fB K "LineParser" "names" :=⟨fun C hC=>by cases hC.symm.trans gG;exact⟨iz,RN⟩⟩
 have Ao:fB K "LineParser" "number" :=⟨fun C hC=>by cases hC.symm.trans gG;exact⟨iz,RP⟩⟩
 have Ar:fB K "LineParser" "tokens" :=⟨fun C hC=>by cases hC.symm.trans gG;exact⟨iz,RQ⟩⟩
 have Tv:Cls K oV:=⟨RW,R4,R5,R6⟩
 have uF:fB K "Token" "column" :=⟨fun C hC=>by cases hC.symm.trans xq;exact⟨Tv,R9⟩⟩
 have oU:fB K "Token" "kind" :=⟨fun C hC=>by cases hC.symm.trans xq;exact⟨Tv,R_⟩⟩
 have lE:fB K "Token" "text" :=⟨fun C hC=>by cases hC.symm.trans xq;exact⟨Tv,Sd⟩⟩
 have Iv:ji K mg "SMALL" GD:=⟨⟨.str "abcdefghijklmnopqrstuvwxyz",.str "abcdefghijklmnopqrstuvwxyz" abH,PySem.W.mg_of X G S8,⟨_,rfl⟩,fun _=> .str _⟩⟩
 have DN:ji K mg "DIGITS" CT:=⟨⟨.str "0123456789",.str "0123456789" abI,PySem.W.mg_of X G S9,⟨_,rfl⟩,fun _=> .str _⟩⟩
 have Iw:ji K mg "KEYWORDS" Hl:=⟨⟨.ref IK,.ref IK,PySem.W.mg_of X G S_,rfl,fun _=> .tup (xs:= [.str "var",.str "limit",.str "low",.str "high",.str "keep",.str "set",.str "halt",.str "not",.str "and",.str "or",.str "mod",.str "if",.str "then",.str "else",.str "min",.str "max"]) (.inr ⟨_,_,_,Tc,rfl,rfl,rfl,by show 16≤sizeLine;decide,(.cons ⟨_,rfl⟩ (.cons ⟨_,rfl⟩ (.cons ⟨_,rfl⟩ (.cons ⟨_,rfl⟩ (.cons ⟨_,rfl⟩ (.cons ⟨_,rfl⟩ (.cons ⟨_,rfl⟩ (.cons ⟨_,rfl⟩ (.cons ⟨_,rfl⟩ (.cons ⟨_,rfl⟩ (.cons ⟨_,rfl⟩ (.cons ⟨_,rfl⟩ (.cons ⟨_,rfl⟩ (.cons ⟨_,rfl⟩ (.cons ⟨_,rfl⟩ (.cons ⟨_,rfl⟩ .nil))))))))))))))))⟩) (.cons (.str _) (.cons (.str _) (.cons (.str _) (.cons (.str _) (.cons (.str _) (.cons (.str _) (.cons (.str _) (.cons (.str _) (.cons (.str _) (.cons (.str _) (.cons (.str _) (.cons (.str _) (.cons (.str _) (.cons (.str _) (.cons (.str _) (.cons (.str _) .nil))))))))))))))))⟩⟩
 have Nf:ji K mg "MAX_NAME" Jt:=⟨⟨.int 8,.int 8 abJ,PySem.W.mg_of X G Td,⟨_,rfl⟩,fun _=> .int _⟩⟩
 have Nh:ji K mg "MAX_DIGITS" K9:=⟨⟨.int 6,.int 6 abK,PySem.W.mg_of X G Tf,⟨_,rfl⟩,fun _=> .int _⟩⟩
 have Nk:ji K mg "SYMBOLS" Ln:=⟨⟨.ref IV,.ref IV,PySem.W.mg_of X G Tg,rfl,fun _=> .tup (xs:= [.str "..",.str ":=",.str "!=",.str "<=",.str ">=",.str "+",.str "-",.str "*",.str "=",.str "<",.str ">",.str "(",.str ")",.str ","]) (.inr ⟨_,_,_,Tj,rfl,rfl,rfl,by show 14≤sizeLine;decide,(.cons ⟨_,rfl⟩ (.cons ⟨_,rfl⟩ (.cons ⟨_,rfl⟩ (.cons ⟨_,rfl⟩ (.cons ⟨_,rfl⟩ (.cons ⟨_,rfl⟩ (.cons ⟨_,rfl⟩ (.cons ⟨_,rfl⟩ (.cons ⟨_,rfl⟩ (.cons ⟨_,rfl⟩ (.cons ⟨_,rfl⟩ (.cons ⟨_,rfl⟩ (.cons ⟨_,rfl⟩ (.cons ⟨_,rfl⟩ .nil))))))))))))))⟩) (.cons (.str _) (.cons (.str _) (.cons (.str _) (.cons (.str _) (.cons (.str _) (.cons (.str _) (.cons (.str _) (.cons (.str _) (.cons (.str _) (.cons (.str _) (.cons (.str _) (.cons (.str _) (.cons (.str _) (.cons (.str _) .nil))))))))))))))⟩⟩
 have Np:ji K mg "MAX_TOKENS" Ks:=⟨⟨.int 120,.int 120 abL,PySem.W.mg_of X G Tn,⟨_,rfl⟩,fun _=> .int _⟩⟩
 have Am:ji K mg "END" Ca:=⟨⟨.str "end",.str "end" abM,PySem.W.mg_of X G Tp,⟨_,rfl⟩,fun _=> .str _⟩⟩
 have Nr:ji K mg "MAX_DEPTH" Lp:=⟨⟨.int 30,.int 30 abN,PySem.W.mg_of X G Tq,⟨_,rfl⟩,fun _=> .int _⟩⟩
 have Nv:ji K mg "COMPARISONS" Ji:=⟨⟨.ref IW,.ref IW,PySem.W.mg_of X G Tr,rfl,fun _=> .tup (xs:= [.str "=",.str "!=",.str "<",.str "<=",.str ">",.str ">="]) (.inr ⟨_,_,_,Tt,rfl,rfl,rfl,by show 6≤sizeLine;decide,(.cons ⟨_,rfl⟩ (.cons ⟨_,rfl⟩ (.cons ⟨_,rfl⟩ (.cons ⟨_,rfl⟩ (.cons ⟨_,rfl⟩ (.cons ⟨_,rfl⟩ .nil))))))⟩) (.cons (.str _) (.cons (.str _) (.cons (.str _) (.cons (.str _) (.cons (.str _) (.cons (.str _) .nil))))))⟩⟩
 have DR:fU K mg "SyntaxProblem" :=⟨⟨d7,PySem.W.mg_of X G iy,iy⟩⟩
 have aoD:fU K mg "LimitRunError" :=⟨⟨vL,PySem.W.mg_of X G Az,Az⟩⟩
 have NZ:fU K mg "BadClaim" :=⟨⟨O6,PySem.W.mg_of X G DY,DY⟩⟩
 have N7:fU K mg "BadPath" :=⟨⟨O7,PySem.W.mg_of X G D_,D_⟩⟩
 have N_:fU K mg "Incompatible" :=⟨⟨O8,PySem.W.mg_of X G Ea,Ea⟩⟩
 have Oa:fU K mg "InvalidCommand" :=⟨⟨O9,PySem.W.mg_of X G Eb,Eb⟩⟩
 have Oc:fU K mg "InvalidOrdinal" :=⟨⟨O_,PySem.W.mg_of X G Ec,Ec⟩⟩
 have Od:fU K mg "NoBreakpoint" :=⟨⟨Pa,PySem.W.mg_of X G Ed,Ed⟩⟩
 have Oe:fU K mg "NoEvent" :=⟨⟨Pb,PySem.W.mg_of X G Ef,Ef⟩⟩
 have Og:fU K mg "NoMark" :=⟨⟨Ph,PySem.W.mg_of X G Eh,Eh⟩⟩
 have Oh:fU K mg "NoVariable" :=⟨⟨Pj,PySem.W.mg_of X G Ei,Ei⟩⟩
 have Oi:fU K mg "NotLater" :=⟨⟨Pn,PySem.W.mg_of X G Ek,Ek⟩⟩
 have Oj:fU K mg "NotReached" :=⟨⟨Pq,PySem.W.mg_of X G El,El⟩⟩
 have Ol:fU K mg "OutOfRange" :=⟨⟨Pr,PySem.W.mg_of X G Em,Em⟩⟩
 have Om:fU K mg "TooLong" :=⟨⟨Pu,PySem.W.mg_of X G En,En⟩⟩
 have Oo:fU K mg "ZeroDivisor" :=⟨⟨Px,PySem.W.mg_of X G Eo,Eo⟩⟩
 have I_:OexC K d7:=⟨⟨ZQ,ZR,ZS,ZV,Py,ZW,ZX,Z0,Z4,Z5,Z6,Z7,Z8,Z9,Z_,Qn,Qo⟩,Qp,Qq,Qs,Qt⟩
 have MP:Lh K "SyntaxProblem" :=⟨fun C hC=>by cases hC.symm.trans iy;exact I_⟩
 have M_:Cg K "SyntaxProblem" "line" :=⟨fun C hC=>by cases hC.symm.trans iy;exact⟨I_,Qu⟩⟩
 have Nb:Cg K "SyntaxProblem" "column" :=⟨fun C hC=>by cases hC.symm.trans iy;exact⟨I_,Qw⟩⟩
 have MN:HX K mg "LimitRunError" :=⟨⟨vL,PySem.W.mg_of X G Az,Qx,Qy,Qz⟩⟩
 have Ov:BW K ["SyntaxProblem"] "column" :=⟨fun n hn C hC=>by
  simp only [List.mem_cons,List.not_mem_nil,or_false]at hn
  rcases hn with rfl
  ·cases hC.symm.trans iy;exact⟨⟨QC,QD,QF,QG⟩,QJ⟩⟩
 have Ow:BW K ["SyntaxProblem"] "line" :=⟨fun n hn C hC=>by
  simp only [List.mem_cons,List.not_mem_nil,or_false]at hn
  rcases hn with rfl
  ·cases hC.symm.trans iy;exact⟨⟨QK,QL,QM,QS⟩,QT⟩⟩
 have Ou:Jw K mg "LimitRunError" ["SyntaxProblem"]:=⟨⟨vL,PySem.W.mg_of X G Az,fun n hn D hD=>by
  simp only [List.mem_cons,List.not_mem_nil,or_false]at hn
  rcases hn with rfl
  ·cases hD.symm.trans iy;exact QV⟩⟩
 have lY:ExcC K d7:=⟨QW,QX,QZ,Q5,Q6,Q7,Q8,Q9⟩
 have Ax:G_ K tE wF:=⟨fun n m b h C D hC hD=>by
  have h:=Yh h
  simp only [Uc,List.mem_cons,List.not_mem_nil,or_false,Prod.mk.injEq]at h
  rcases h with⟨rfl,rfl,rfl⟩|⟨rfl,rfl,rfl⟩|⟨rfl,rfl,rfl⟩|⟨rfl,rfl,rfl⟩|⟨rfl,rfl,rfl⟩|⟨rfl,rfl,rfl⟩|⟨rfl,rfl,rfl⟩|⟨rfl,rfl,rfl⟩|⟨rfl,rfl,rfl⟩|⟨rfl,rfl,rfl⟩|⟨rfl,rfl,rfl⟩|⟨rfl,rfl,rfl⟩|⟨rfl,rfl,rfl⟩|⟨rfl,rfl,rfl⟩|⟨rfl,rfl,rfl⟩
  ·cases hC.symm.trans iy;cases hD.symm.trans DY;exact⟨lY,Q_⟩
  ·cases hC.symm.trans iy;cases hD.symm.trans D_;exact⟨lY,Ra⟩
  ·cases hC.symm.trans iy;cases hD.symm.trans Ea;exact⟨lY,Rb⟩
  ·cases hC.symm.trans iy;cases hD.symm.trans Eb;exact⟨lY,Rf⟩
  ·cases hC.symm.trans iy;cases hD.symm.trans Ec;exact⟨lY,Rg⟩
  ·cases hC.symm.trans iy;cases hD.symm.trans Ed;exact⟨lY,Rh⟩
  ·cases hC.symm.trans iy;cases hD.symm.trans Ef;exact⟨lY,Ri⟩
  ·cases hC.symm.trans iy;cases hD.symm.trans Eh;exact⟨lY,Rj⟩
  ·cases hC.symm.trans iy;cases hD.symm.trans Ei;exact⟨lY,Rk⟩
  ·cases hC.symm.trans iy;cases hD.symm.trans Ek;exact⟨lY,Rm⟩
  ·cases hC.symm.trans iy;cases hD.symm.trans El;exact⟨lY,Ro⟩
  ·cases hC.symm.trans iy;cases hD.symm.trans Em;exact⟨lY,Rp⟩
  ·cases hC.symm.trans iy;cases hD.symm.trans iy;exact⟨lY,Rq⟩
  ·cases hC.symm.trans iy;cases hD.symm.trans En;exact⟨lY,Rr⟩
  ·cases hC.symm.trans iy;cases hD.symm.trans Eo;exact⟨lY,Rv⟩,fun n m b h C hC=>by
  have h:=Yh h
  simp only [Wx,List.mem_cons,List.not_mem_nil,or_false,Prod.mk.injEq]at h
  rcases h with⟨rfl,rfl,rfl⟩
  ·cases hC.symm.trans iy;exact⟨lY,Rw⟩⟩
 have F0:=dY (st:=wX) l0 c0 k0
 have F0A:=F0
 have F1:=dY (st:=xJ) l1 c1 k1
 have F1A:=F1
 have F2:=dY (st:=zm) l2 c2 k2
 have F2A:=F2
 have F3:=dY (st:=yx) l3 c3 k3
 have F3A:=F3
 have F4:=dY (st:=xW) l4 c4 k4
 have F4A:=F4
 have F5:=dY (st:=qp) l5 c5 k5
 have F5A:=F5
 have F6:=dY (st:=rK) l6 c6 k6
 have F6A:=F6
 have F7:=dY (st:=yG) l7 c7 k7
 have F7A:=F7
 have F8:=dY (st:=yO) l8 c8 k8
 have F8A:=F8
 have F9:=dY (st:=xK) l9 c9 k9
 have F9A:=F9
 have F10:=dY (st:=zV) l10 c10 k10
 have F10A:=F10
 have F11:=dY (st:=zH) l11 c11 k11
 have F11A:=F11
 have F12:=dY (st:=yX) l12 c12 k12
 have F12A:=F12
 have F13:=dY (st:=yh) l13 c13 k13
 have F13A:=F13
 have F14:=dY (st:=yR) l14 c14 k14
 have F14A:=F14
 have F15:=dY (st:=yK) l15 c15 k15
 have F15A:=F15
 have F16:=dY (st:=yH) l16 c16 k16
 have F16A:=F16
 have F17:=dY (st:=tR) l17 c17 k17
 have F17A:=F17
 have F18:=dY (st:=uD) l18 c18 k18
 have F18A:=F18
 have F19:=dY (st:=sS) l19 c19 k19
 have F19A:=F19
 have F20:=dY (st:=rZ) l20 c20 k20
 have abO:=F20
 have F21:=dY (st:=zu) l21 c21 k21
 have F21A:=F21
 have F22:=dY (st:=Ac) l22 c22 k22
 have F22A:=F22
 have F23:=dY (st:=yr) l23 c23 k23
 have F23A:=F23
 have F24:=dY (st:=yL) l24 c24 k24
 have anr:=F24
 have F25:=dY (st:=yM) l25 c25 k25
 have ant:=F25
 have F26:=dY (st:=z8) l26 c26 k26
 have anu:=F26
 have F27:=dY (st:=xO) l27 c27 k27
 have anv:=F27
 have F28:=dY (st:=zp) l28 c28 k28
 have anw:=F28
 have F29:=dY (st:=zR) l29 c29 k29
 have anx:=F29
 have F30:=dY (st:=yC) l30 c30 k30
 have F30A:=F30
 have F31:=dY (st:=yZ) l31 c31 k31
 have F31A:=F31
 have F32:=dY (st:=yt) l32 c32 k32
 have F32A:=F32
 have F33:=dY (st:=xU) l33 c33 k33
 have F33A:=F33
 have F34:=dY (st:=zF) l34 c34 k34
 have F34A:=F34
 have F35:=dY (st:=tG) l35 c35 k35
 have F35A:=F35
 have F36:=dY (st:=sU) l36 c36 k36
 have F36A:=F36
 have F37:=dY (st:=tW) l37 c37 k37
 have F37A:=F37
 have F38:=dY (st:=tH) l38 c38 k38
 have F38A:=F38
 have F39:=dY (st:=ug) l39 c39 k39
 have F39A:=F39
 have F40:=dY (st:=rY) l40 c40 k40
 have F40A:=F40
 have F41:=dY (st:=su) l41 c41 k41
 have F41A:=F41
 have F42:=dY (st:=sE) l42 c42 k42
 have F42A:=F42
 have F43:=dY (st:=zQ) l43 c43 k43
 have F43A:=F43
 have F44:=dY (st:=vZ) l44 c44 k44
 have F44A:=F44
 have F45:=dY (st:=xr) l45 c45 k45
 have F45A:=F45
 have F46:=dY (st:=zX) l46 c46 k46
 have F46A:=F46
 have F47:=dY (st:=sG) l47 c47 k47
 have F47A:=F47
 refine⟨PySem.W.fnOf "law" "law" (defArgs sG) (defBody sG) (defScope sG) .none abD abE abF abC Qm abG,fun s u=> .of_eq rfl,fun base _ _=> ?_⟩
 have anz:=ahM (P:=P) (w:=w) (mg:=mg) (base:=base) F0 Im Mr
 have Ox:Def P w K mg base "_law_source" 1 yJ:= .of anz (PySem.W.mg_of X G a0) F0.kp (F0A.binds fun _ _ _ _ _ _ us hl=>match us,hl with| [_],_=>rfl)
 have anA:=aeZ (P:=P) (w:=w) (mg:=mg) (base:=base) F1 rN
 have Ms:Def P w K mg base "_law_mixed" 1 xZ:= .of anA (PySem.W.mg_of X G a1) F1.kp (F1A.binds fun _ _ _ _ _ _ us hl=>match us,hl with| [_,_],_=>rfl)
 have anB:=ahT (P:=P) (w:=w) (mg:=mg) (base:=base) F2 Ms fJ
 have fX:Def P w K mg base "_law_pick" 2 h_:= .of anB (PySem.W.mg_of X G a2) F2.kp (F2A.binds fun _ _ _ _ _ _ us hl=>match us,hl with| [_,_],_=>rfl)
 have anC:=aeI (P:=P) (w:=w) (mg:=mg) (base:=base) F3 fX fJ
 have jM:Def P w K mg base "_law_choose" 3 jR:= .of anC (PySem.W.mg_of X G a3) F3.kp (F3A.binds fun _ _ _ _ _ _ us hl=>match us,hl with| [_,_],_=>rfl)
 have anD:=aeR (P:=P) (w:=w) (mg:=mg) (base:=base) F4
 have Mu:Def P w K mg base "_law_rank" 1 z_:= .of anD (PySem.W.mg_of X G a4) F4.kp (F4A.binds fun _ _ _ _ _ _ us hl=>match us,hl with| [_],_=>rfl)
 have anE: ∀n,bM P w K mg base CX0 (3+n) f5 (PySem.W.fnOf "_law_tokens_of" "_law_tokens_of" (defArgs qp) (defBody qp) (defScope qp) .none kV5 dc5 pm5 an5 cd5 ct5) ["source","expression","rank","spare"] (dO K (lF n)):=by
  intro n
  induction n with
  |zero=>exact nW fun vs H Q E h=>(by obtain⟨xs,M,R,_,_,h,_⟩:=h;exact ag8 xs M R h)
  |succ n ih=>exact afa n (P:=P) (w:=w) (mg:=mg) (base:=base) F5 Mu fX (.of ih (PySem.W.mg_of X G a5) F5.kp (F5A.binds fun _ _ _ _ _ _ us hl=>match us,hl with| [_,_,_,_],_=>rfl)) oR Mv
 have rO:Def P w K mg base "_law_tokens_of" 27 (lF 24):= .of (anE 24) (PySem.W.mg_of X G a5) F5.kp (F5A.binds fun _ _ _ _ _ _ us hl=>match us,hl with| [_,_,_,_],_=>rfl)
 have anF: ∀n,bM P w K mg base CX0 (4+n) f6 (PySem.W.fnOf "_law_expression" "_law_expression" (defArgs rK) (defBody rK) (defScope rK) .none kV6 dc6 pm6 an6 cd6 ct6) ["source","names","depth"] (dO K (pZ n)):=by
  intro n
  induction n with
  |zero=>exact nW fun vs H Q E h=>(by obtain⟨xs,M,R,_,_,h,_⟩:=h;exact aiq xs M R h)
  |succ n ih=>exact adl n (P:=P) (w:=w) (mg:=mg) (base:=base) F6 fX jM (.of ih (PySem.W.mg_of X G a6) F6.kp (F6A.binds fun _ _ _ _ _ _ us hl=>match us,hl with| [_,_,_],_=>rfl)) rN
 have Du:Def P w K mg base "_law_expression" 12 (pZ 8):= .of (anF 8) (PySem.W.mg_of X G a6) F6.kp (F6A.binds fun _ _ _ _ _ _ us hl=>match us,hl with| [_,_,_],_=>rfl)
 have anG:=ac6 (P:=P) (w:=w) (mg:=mg) (base:=base) F7 fX jM fJ
 have Oz:Def P w K mg base "_law_changed" 4 yw:= .of anG (PySem.W.mg_of X G a7) F7.kp (F7A.binds fun _ _ _ _ _ _ us hl=>match us,hl with| [_,_],_=>rfl)
 have anH:=ac2 (P:=P) (w:=w) (mg:=mg) (base:=base) F8 jM fX Mw oR
 have OD:Def P w K mg base "_law_joined" 4 xM:= .of anH (PySem.W.mg_of X G a8) F8.kp (F8A.binds fun _ _ _ _ _ _ us hl=>match us,hl with| [_,_],_=>rfl)
 have anI:=ahi (P:=P) (w:=w) (mg:=mg) (base:=base) F9 fX
 have Mx:Def P w K mg base "_law_nest" 3 Ae:= .of anI (PySem.W.mg_of X G a9) F9.kp (F9A.binds fun _ _ _ _ _ _ us hl=>match us,hl with| [_,_],_=>rfl)
 have anJ:=aii (P:=P) (w:=w) (mg:=mg) (base:=base) F10 Mx fX jM
 have OJ:Def P w K mg base "_law_deep" 4 yE:= .of anJ (PySem.W.mg_of X G a10) F10.kp (F10A.binds fun _ _ _ _ _ _ us hl=>match us,hl with| [_],_=>rfl)
 have anK:=agZ (P:=P) (w:=w) (mg:=mg) (base:=base) F11 fX jM fJ Mz
 have Ay:Def P w K mg base "_law_bent" 4 tU:= .of anK (PySem.W.mg_of X G a11) F11.kp (F11A.binds fun _ _ _ _ _ _ us hl=>match us,hl with| [_,_],_=>rfl)
 have anL:=agE (P:=P) (w:=w) (mg:=mg) (base:=base) F12 Ip
 have O2:Def P w K mg base "_law_equal" 1 Aa:= .of anL (PySem.W.mg_of X G a12) F12.kp (F12A.binds fun _ _ _ _ _ _ us hl=>match us,hl with| [_,_],_=>rfl)
 have anM:=acj (P:=P) (w:=w) (mg:=mg) (base:=base) F13 fJ
 have MF:Def P w K mg base "_law_lexed" 1 zG:= .of anM (PySem.W.mg_of X G a13) F13.kp (F13A.binds fun _ _ _ _ _ _ us hl=>match us,hl with| [_],_=>rfl)
 have anN:=agw (P:=P) (w:=w) (mg:=mg) (base:=base) F14
 have pW:Def P w K mg base "_law_stop" 1 nM:= .of anN (PySem.W.mg_of X G a14) F14.kp (F14A.binds fun _ _ _ _ _ _ us hl=>match us,hl with| [_],_=>rfl)
 have anO:=ahX (P:=P) (w:=w) (mg:=mg) (base:=base) F15
 have mW:Def P w K mg base "_law_accept" 1 lK:= .of anO (PySem.W.mg_of X G a15) F15.kp (F15A.binds fun _ _ _ _ _ _ us hl=>match us,hl with| [_,_],_=>rfl)
 have anP:=afz (P:=P) (w:=w) (mg:=mg) (base:=base) F16 mW pW
 have uE:Def P w K mg base "_law_demand" 2 pN:= .of anP (PySem.W.mg_of X G a16) F16.kp (F16A.binds fun _ _ _ _ _ _ us hl=>match us,hl with| [_,_],_=>rfl)
 have Ja: ∀n,(bM P w K mg base CX0 (3+n) f17 (PySem.W.fnOf "_law_whole" "_law_whole" (defArgs tR) (defBody tR) (defScope tR) .none aak aal aam aaj PB aan) ["parser"] (dO K (lJ n)))∧(bM P w K mg base CX0 (3+n) f18 (PySem.W.fnOf "_law_chain" "_law_chain" (defArgs uD) (defBody uD) (defScope uD) .none aap aaq aar aao PL aas) ["parser","rank"] (dO K (nu n)))∧(bM P w K mg base CX0 (3+n) f19 (PySem.W.fnOf "_law_under" "_law_under" (defArgs sS) (defBody sS) (defScope sS) .none aau aav aaw aat PN aax) ["parser","operator","rank"] (dO K (qm n)))∧(bM P w K mg base CX0 (3+n) f20 (PySem.W.fnOf "_law_factor" "_law_factor" (defArgs rZ) (defBody rZ) (defScope rZ) .none aaz aaA aaB aay P0 aaC) ["parser"] (dO K (sV n))):=by
  intro n
  induction n with
  |zero=>exact⟨nW fun vs H Q E h=>(by obtain⟨xs,M,R,_,_,h,_⟩:=h;exact aer xs M R h),nW fun vs H Q E h=>(by obtain⟨xs,M,R,_,_,h,_⟩:=h;exact ag5 xs M R h),nW fun vs H Q E h=>(by obtain⟨xs,M,R,_,_,h,_⟩:=h;exact afu xs M R h),nW fun vs H Q E h=>(by obtain⟨xs,M,R,_,_,h,_⟩:=h;exact ach xs M R h)⟩
  |succ n ih=>
   obtain⟨anQ,anR,anS,anT⟩:=ih
   have abP:Def P w K mg base "_law_whole" (3+n) (lJ n):= .of anQ (PySem.W.mg_of X G a17) F17.kp (F17A.binds fun _ _ _ _ _ _ us hl=>match us,hl with| [_],_=>rfl)
   have Tw:Def P w K mg base "_law_chain" (3+n) (nu n):= .of anR (PySem.W.mg_of X G a18) F18.kp (F18A.binds fun _ _ _ _ _ _ us hl=>match us,hl with| [_,_],_=>rfl)
   have abQ:Def P w K mg base "_law_under" (3+n) (qm n):= .of anS (PySem.W.mg_of X G a19) F19.kp (F19A.binds fun _ _ _ _ _ _ us hl=>match us,hl with| [_,_,_],_=>rfl)
   have anU:Def P w K mg base "_law_factor" (3+n) (sV n):= .of anT (PySem.W.mg_of X G a20) F20.kp (abO.binds fun _ _ _ _ _ _ us hl=>match us,hl with| [_],_=>rfl)
   exact⟨ah5 n (P:=P) (w:=w) (mg:=mg) (base:=base) F17 pW mW abP uE Tw,agr n (P:=P) (w:=w) (mg:=mg) (base:=base) F18 mW abQ anU Tw,aia n (P:=P) (w:=w) (mg:=mg) (base:=base) F19 pW Tw,afb n (P:=P) (w:=w) (mg:=mg) (base:=base) F20 mW abQ uE abP oR⟩
 have rP:Def P w K mg base "_law_whole" 303 (lJ 300):= .of (Ja 300).1 (PySem.W.mg_of X G a17) F17.kp (F17A.binds fun _ _ _ _ _ _ us hl=>match us,hl with| [_],_=>rfl)
 have xg:Def P w K mg base "_law_chain" 303 (nu 300):= .of (Ja 300).2.1 (PySem.W.mg_of X G a18) F18.kp (F18A.binds fun _ _ _ _ _ _ us hl=>match us,hl with| [_,_],_=>rfl)
 have Ir:Def P w K mg base "_law_under" 303 (qm 300):= .of (Ja 300).2.2.1 (PySem.W.mg_of X G a19) F19.kp (F19A.binds fun _ _ _ _ _ _ us hl=>match us,hl with| [_,_,_],_=>rfl)
 have ZG:Def P w K mg base "_law_factor" 303 (sV 300):= .of (Ja 300).2.2.2 (PySem.W.mg_of X G a20) F20.kp (abO.binds fun _ _ _ _ _ _ us hl=>match us,hl with| [_],_=>rfl)
 have anV:=adD (P:=P) (w:=w) (mg:=mg) (base:=base) F21 rP pW
 have MJ:Def P w K mg base "_law_parsed" 304 zB:= .of anV (PySem.W.mg_of X G a21) F21.kp (F21A.binds fun _ _ _ _ _ _ us hl=>match us,hl with| [_,_,_],_=>rfl)
 have anW:=acY (P:=P) (w:=w) (mg:=mg) (base:=base) F22 MF MJ
 have O4:Def P w K mg base "_law_expected" 305 yF:= .of anW (PySem.W.mg_of X G a22) F22.kp (F22A.binds fun _ _ _ _ _ _ us hl=>match us,hl with| [_,_],_=>rfl)
 have anY:=ah0 (P:=P) (w:=w) (mg:=mg) (base:=base) F23 fJ
 have Iu:Def P w K mg base "end_of_run" 1 wL:= .of anY (PySem.W.mg_of X G a23) F23.kp (F23A.binds fun _ _ _ _ _ _ us hl=>match us,hl with| [_,_,_],_=>rfl)
 have anZ:=afg (P:=P) (w:=w) (mg:=mg) (base:=base) F24 MN MP M_ Nb
 have qN:zW P w K mg base "SyntaxProblem" 1 m7:=⟨⟨d7,f24,_,_,PySem.W.mg_of X G iy,iy,I_,a24,beq_iff_eq.mp i24,anZ,anr.binds fun _ _ _ _ _ _ us hl=>match us,hl with| [_,_,_],_=>rfl⟩⟩
 have an_:=aeh (P:=P) (w:=w) (mg:=mg) (base:=base) F25 oU lE uF
 have vK:wW P w K mg base "Token" 1 ql:=⟨⟨oV,f25,_,_,PySem.W.mg_of X G xq,xq,⟨R7,a25,i25,R8⟩,an_,ant.binds fun _ _ _ _ _ _ us hl=>match us,hl with| [_,_,_,_],_=>rfl⟩⟩
 have aoa:=ahs (P:=P) (w:=w) (mg:=mg) (base:=base) F26 Iu qN vK fJ Iv DN Iw Nf Nh Nk
 have Nm:DefX P w K mg base "token_at" 3 zN:=⟨⟨_,_,_,aoa,PySem.W.mg_of X G a26,F26.kp,anu.binds fun _ _ _ _ _ _ us hl=>match us,hl with| [_,_,_],_=>rfl⟩⟩
 have aob:=agC (P:=P) (w:=w) (mg:=mg) (base:=base) F27 Nm qN vK fJ Np Am uF lE
 have Nq:DefX P w K mg base "tokens_of" 4 yc:=⟨⟨_,_,_,aob,PySem.W.mg_of X G a27,F27.kp,anv.binds fun _ _ _ _ _ _ us hl=>match us,hl with| [_,_],_=>rfl⟩⟩
 have aoc:=afK (P:=P) (w:=w) (mg:=mg) (base:=base) F28 Nq Ao Aq Ar lW lX
 have NP:G3 P w K mg base "LineParser" 5 xQ:=⟨⟨gD,f28,_,_,PySem.W.mg_of X G gG,gG,⟨RJ,a28,i28,RK⟩,aoc,(anw.binds fun _ _ _ _ _ _ us hl=>match us,hl with| [_,_,_,_],_=>rfl)⟩⟩
 have aod:=aeu (P:=P) (w:=w) (mg:=mg) (base:=base) F29 Ar lW
 have pX:jW P w K mg base "LineParser" "peek" 1 oM:=⟨⟨gD,f29,_,_,gG,iz,⟨a29,i29,F29.kp⟩,aod,anx.binds fun _ _ _ _ _ _ us hl=>match us,hl with| [_],_=>rfl⟩⟩
 have aoe:=ahY (P:=P) (w:=w) (mg:=mg) (base:=base) F30 qN uF Ao
 have uG:dX P w K mg base "LineParser" "fail" 3 oA:= .of gG iz ⟨a30,i30,F30.kp⟩ aoe (F30A.binds fun _ _ _ _ _ _ us hl=>match us,hl with| [_,_],_=>rfl)
 have aof:=ad2 (P:=P) (w:=w) (mg:=mg) (base:=base) F31 pX uG Nr lX
 have uH:dX P w K mg base "LineParser" "enter" 4 qP:= .of gG iz ⟨a31,i31,F31.kp⟩ aof (F31A.binds fun _ _ _ _ _ _ us hl=>match us,hl with| [_],_=>rfl)
 have aog:=aew (P:=P) (w:=w) (mg:=mg) (base:=base) F32 pX oU lE lW
 have iU:jW P w K mg base "LineParser" "accept" 2 iJ:=⟨⟨gD,f32,_,_,gG,iz,⟨a32,i32,F32.kp⟩,aog,F32A.binds fun _ _ _ _ _ _ us hl=>match us,hl with| [_,_,_],_=>rfl⟩⟩
 have abR:=aik (P:=P) (w:=w) (mg:=mg) (base:=base) F33 pX uG oU lE lW
 have uI:dX P w K mg base "LineParser" "take" 4 mX:= .of gG iz ⟨a33,i33,F33.kp⟩ abR (F33A.bindsD t33 3 1 rfl fun _ _ _ _ _ _ us hl=>match us,hl with| [_,_,_],_=>⟨_,rfl,rfl⟩)
 have NK:dX P w K mg base "LineParser" "take" 4 E_:=⟨⟨_,_,_,_,_,_,[.non],[.d .none],gG,iz,⟨a33,i33,F33.kp⟩,abR,F33A.bindsD t33 2 0 rfl (fun _ _ _ _ _ _ us hl=>match us,hl with| [_,_],_=>⟨_,rfl,rfl⟩),(.cons rfl .nil),fun _=>(.cons .non .nil),abY⟩⟩
 have aoh:=ait (P:=P) (w:=w) (mg:=mg) (base:=base) F34 iU
 have Iz:jW P w K mg base "LineParser" "product_operator" 3 vf:=⟨⟨gD,f34,_,_,gG,iz,⟨a34,i34,F34.kp⟩,aoh,F34A.binds fun _ _ _ _ _ _ us hl=>match us,hl with| [_],_=>rfl⟩⟩
 have vM: ∀n,(bM P w K mg base (L2.CX P w) (5+n) f35 (PySem.W.fnOf "expression" "LineParser.expression" (defArgs tG) (defBody tG) (defScope tG) .none aaS aaT aaU aaR P_ aaV) ["self"] (gA K (lV n)))∧(bM P w K mg base (L2.CX P w) (5+n) f36 (PySem.W.fnOf "disjunction" "LineParser.disjunction" (defArgs sU) (defBody sU) (defScope sU) .none aaX aaY aaZ aaW Qa aa0) ["self"] (gA K (sJ n)))∧(bM P w K mg base (L2.CX P w) (5+n) f37 (PySem.W.fnOf "conjunction" "LineParser.conjunction" (defArgs tW) (defBody tW) (defScope tW) .none aa2 aa3 aa4 aa1 Qc aa5) ["self"] (gA K (rB n)))∧(bM P w K mg base (L2.CX P w) (5+n) f38 (PySem.W.fnOf "negation" "LineParser.negation" (defArgs tH) (defBody tH) (defScope tH) .none aa7 aa8 aa9 aa6 Qe aa_) ["self"] (gA K (oW n)))∧(bM P w K mg base (L2.CX P w) (5+n) f39 (PySem.W.fnOf "comparison" "LineParser.comparison" (defArgs ug) (defBody ug) (defScope ug) .none abd abe abf abb Qg abg) ["self"] (gA K (tK n)))∧(bM P w K mg base (L2.CX P w) (5+n) f40 (PySem.W.fnOf "addition" "LineParser.addition" (defArgs rY) (defBody rY) (defScope rY) .none abj abk abl abh Qh abm) ["self"] (gA K (rD n)))∧(bM P w K mg base (L2.CX P w) (5+n) f41 (PySem.W.fnOf "product" "LineParser.product" (defArgs su) (defBody su) (defScope su) .none abo abp abq abn Qi abr) ["self"] (gA K (qW n)))∧(bM P w K mg base (L2.CX P w) (5+n) f42 (PySem.W.fnOf "factor" "LineParser.factor" (defArgs sE) (defBody sE) (defScope sE) .none abu abv abw abt Ql abx) ["self"] (gA K (o8 n))):=by
  intro n
  induction n with
  |zero=>exact⟨nW fun vs H Q E h=>(by obtain⟨xs,M,R,RX,_,_,h,_⟩:=h;exact agp xs M R RX h),nW fun vs H Q E h=>(by obtain⟨xs,M,R,RX,_,_,h,_⟩:=h;exact afh xs M R RX h),nW fun vs H Q E h=>(by obtain⟨xs,M,R,RX,_,_,h,_⟩:=h;exact agA xs M R RX h),nW fun vs H Q E h=>(by obtain⟨xs,M,R,RX,_,_,h,_⟩:=h;exact acJ xs M R RX h),nW fun vs H Q E h=>(by obtain⟨xs,M,R,RX,_,_,h,_⟩:=h;exact adk xs M R RX h),nW fun vs H Q E h=>(by obtain⟨xs,M,R,RX,_,_,h,_⟩:=h;exact ab4 xs M R RX h),nW fun vs H Q E h=>(by obtain⟨xs,M,R,RX,_,_,h,_⟩:=h;exact acr xs M R RX h),nW fun vs H Q E h=>(by obtain⟨xs,M,R,RX,_,_,h,_⟩:=h;exact adp xs M R RX h)⟩
  |succ n ih=>
   obtain⟨aoi,aoj,aok,aol,aom,aon,aoo,aop⟩:=ih
   have abS:dX P w K mg base "LineParser" "expression" (5+n) (lV n):= .of gG iz ⟨a35,i35,F35.kp⟩ aoi (F35A.binds fun _ _ _ _ _ _ us hl=>match us,hl with| [_],_=>rfl)
   have aoq:dX P w K mg base "LineParser" "disjunction" (5+n) (sJ n):= .of gG iz ⟨a36,i36,F36.kp⟩ aoj (F36A.binds fun _ _ _ _ _ _ us hl=>match us,hl with| [_],_=>rfl)
   have aor:dX P w K mg base "LineParser" "conjunction" (5+n) (rB n):= .of gG iz ⟨a37,i37,F37.kp⟩ aok (F37A.binds fun _ _ _ _ _ _ us hl=>match us,hl with| [_],_=>rfl)
   have abT:dX P w K mg base "LineParser" "negation" (5+n) (oW n):= .of gG iz ⟨a38,i38,F38.kp⟩ aol (F38A.binds fun _ _ _ _ _ _ us hl=>match us,hl with| [_],_=>rfl)
   have aos:dX P w K mg base "LineParser" "comparison" (5+n) (tK n):= .of gG iz ⟨a39,i39,F39.kp⟩ aom (F39A.binds fun _ _ _ _ _ _ us hl=>match us,hl with| [_],_=>rfl)
   have aot:dX P w K mg base "LineParser" "addition" (5+n) (rD n):= .of gG iz ⟨a40,i40,F40.kp⟩ aon (F40A.binds fun _ _ _ _ _ _ us hl=>match us,hl with| [_],_=>rfl)
   have aou:dX P w K mg base "LineParser" "product" (5+n) (qW n):= .of gG iz ⟨a41,i41,F41.kp⟩ aoo (F41A.binds fun _ _ _ _ _ _ us hl=>match us,hl with| [_],_=>rfl)
   have abU:dX P w K mg base "LineParser" "factor" (5+n) (o8 n):= .of gG iz ⟨a42,i42,F42.kp⟩ aop (F42A.binds fun _ _ _ _ _ _ us hl=>match us,hl with| [_],_=>rfl)
   exact⟨ahz n (P:=P) (w:=w) (mg:=mg) (base:=base) F35 uH iU abS uI aoq lX,agP n (P:=P) (w:=w) (mg:=mg) (base:=base) F36 aor iU,aiw n (P:=P) (w:=w) (mg:=mg) (base:=base) F37 abT iU,aiz n (P:=P) (w:=w) (mg:=mg) (base:=base) F38 iU aos uH abT lX,acD n (P:=P) (w:=w) (mg:=mg) (base:=base) F39 aot iU Nv,adB n (P:=P) (w:=w) (mg:=mg) (base:=base) F40 aou iU,ae2 n (P:=P) (w:=w) (mg:=mg) (base:=base) F41 abU Iz,aib n (P:=P) (w:=w) (mg:=mg) (base:=base) F42 pX uG iU uH abU uI abS oR oU lW lE Aq lX⟩
 have rQ:dX P w K mg base "LineParser" "expression" 255 (lV 250):= .of gG iz ⟨a35,i35,F35.kp⟩ (vM 250).1 (F35A.binds fun _ _ _ _ _ _ us hl=>match us,hl with| [_],_=>rfl)
 have ZK:dX P w K mg base "LineParser" "disjunction" 255 (sJ 250):= .of gG iz ⟨a36,i36,F36.kp⟩ (vM 250).2.1 (F36A.binds fun _ _ _ _ _ _ us hl=>match us,hl with| [_],_=>rfl)
 have Nt:dX P w K mg base "LineParser" "conjunction" 255 (rB 250):= .of gG iz ⟨a37,i37,F37.kp⟩ (vM 250).2.2.1 (F37A.binds fun _ _ _ _ _ _ us hl=>match us,hl with| [_],_=>rfl)
 have DP:dX P w K mg base "LineParser" "negation" 255 (oW 250):= .of gG iz ⟨a38,i38,F38.kp⟩ (vM 250).2.2.2.1 (F38A.binds fun _ _ _ _ _ _ us hl=>match us,hl with| [_],_=>rfl)
 have ZL:dX P w K mg base "LineParser" "comparison" 255 (tK 250):= .of gG iz ⟨a39,i39,F39.kp⟩ (vM 250).2.2.2.2.1 (F39A.binds fun _ _ _ _ _ _ us hl=>match us,hl with| [_],_=>rfl)
 have Nu:dX P w K mg base "LineParser" "addition" 255 (rD 250):= .of gG iz ⟨a40,i40,F40.kp⟩ (vM 250).2.2.2.2.2.1 (F40A.binds fun _ _ _ _ _ _ us hl=>match us,hl with| [_],_=>rfl)
 have Ny:dX P w K mg base "LineParser" "product" 255 (qW 250):= .of gG iz ⟨a41,i41,F41.kp⟩ (vM 250).2.2.2.2.2.2.1 (F41A.binds fun _ _ _ _ _ _ us hl=>match us,hl with| [_],_=>rfl)
 have DQ:dX P w K mg base "LineParser" "factor" 255 (o8 250):= .of gG iz ⟨a42,i42,F42.kp⟩ (vM 250).2.2.2.2.2.2.2 (F42A.binds fun _ _ _ _ _ _ us hl=>match us,hl with| [_],_=>rfl)
 have aov:=agN (P:=P) (w:=w) (mg:=mg) (base:=base) F43 NK Am
 have NQ:dX P w K mg base "LineParser" "whole" 5 Ab:= .of gG iz ⟨a43,i43,F43.kp⟩ aov (F43A.binds fun _ _ _ _ _ _ us hl=>match us,hl with| [_,_],_=>rfl)
 have aow:=aha (P:=P) (w:=w) (mg:=mg) (base:=base) F44 NP rQ NQ
 have Oq:DefX P w K mg base "parse_expression" 256 yU:=⟨⟨_,_,_,aow,PySem.W.mg_of X G a44,F44.kp,F44A.binds fun _ _ _ _ _ _ us hl=>match us,hl with| [_,_],_=>rfl⟩⟩
 have aox:=aht (P:=P) (w:=w) (mg:=mg) (base:=base) F45 Av NT NZ N7 N_ Oa Oc Od Oe Og Oh Oi Oj Ol Om Oo DR Ax
 have Ot:Def P w K mg base "_law_is_problem" 1 zK:= .of aox (PySem.W.mg_of X G a45) F45.kp (F45A.binds fun _ _ _ _ _ _ us hl=>match us,hl with| [_],_=>rfl)
 have aoy:=abZ (P:=P) (w:=w) (mg:=mg) (base:=base) F46 Oq Ot DR Ou Ov Ow
 have O5:Def P w K mg base "_law_outcome" 257 yI:= .of aoy (PySem.W.mg_of X G a46) F46.kp (F46A.binds fun _ _ _ _ _ _ us hl=>match us,hl with| [_,_],_=>rfl)
 exact ok_law F47 Ox fX jM rO Du Oz OD OJ Ay O2 O4 O5 rN
end Law
open PySem PySem.W PyProof.Rows
set_option maxHeartbeats 0 in
theorem PySem.Challenge.cw_limitrun_k11_expressions_refused_holds : PySem.Challenge.rw_limitrun_k11_expressions_refused.Holds := by
 refine Law.headQ.2 ?_
 delta Law.headQ
 dsimp only
 refine DL.aeb (l:=PySem.Challenge.rw_limitrun_k11_expressions_refused) (n:=63) (k:=306) (x:= "script") (CX:=L2.CX0) (sp:=fun K=>DL.dO K Law.sp_law) rfl (by decide) (by kernel_rfl) ⟨rfl,by decide,by decide⟩ (fun w h Y=>PySem.W.kIn_of Y) ?F (fun K H a ns hl hS=>DL.acy Law.ahK hl hS) (fun _ _ _ _ h=>h)
 case F=>
  intro w mg fa h KX G hmg
  have eL:(HandSHeadRun.topDef (OpenLaw.row PySem.Challenge.rw_limitrun_k11_expressions_refused).prog 61).name=("law" :PySem.Str):=by kernel_rfl
  rw [eL]at hmg
  refine' Law.all_mk KX G hmg ?iy ?Az ?DY ?D_ ?Ea ?Eb ?Ec ?Ed ?Ef ?Eh ?Ei ?Ek ?El ?Em ?En ?Eo ?Qn ?Qo ?Qp ?Qq ?Qs ?Qt ?Qu ?Qw ?Qx ?Qy ?Qz ?QC ?QD ?QF ?QG ?QJ ?QK ?QL ?QM ?QS ?QT ?QV ?QW ?QX ?QZ ?Q5 ?Q6 ?Q7 ?Q8 ?Q9 ?Q_ ?Ra ?Rb ?Rf ?Rg ?Rh ?Ri ?Rj ?Rk ?Rm ?Ro ?Rp ?Rq ?Rr ?Rv ?Rw ?gG ?Rx ?Ry ?Rz ?RG ?RJ ?RK ?RL ?RM ?RN ?RP ?RQ ?xq ?RW ?R4 ?R5 ?R6 ?R7 ?R8 ?R9 ?R_ ?Sd ?a0 ?l0 ?c0 ?k0 ?a1 ?l1 ?c1 ?k1 ?a2 ?l2 ?c2 ?k2 ?a3 ?l3 ?c3 ?k3 ?a4 ?l4 ?c4 ?k4 ?a5 ?l5 ?c5 ?k5 ?a6 ?l6 ?c6 ?k6 ?a7 ?l7 ?c7 ?k7 ?a8 ?l8 ?c8 ?k8 ?a9 ?l9 ?c9 ?k9 ?a10 ?l10 ?c10 ?k10 ?a11 ?l11 ?c11 ?k11 ?a12 ?l12 ?c12 ?k12 ?a13 ?l13 ?c13 ?k13 ?a14 ?l14 ?c14 ?k14 ?a15 ?l15 ?c15 ?k15 ?a16 ?l16 ?c16 ?k16 ?a17 ?l17 ?c17 ?k17 ?a18 ?l18 ?c18 ?k18 ?a19 ?l19 ?c19 ?k19 ?a20 ?l20 ?c20 ?k20 ?a21 ?l21 ?c21 ?k21 ?a22 ?l22 ?c22 ?k22 ?a23 ?l23 ?c23 ?k23 ?a24 ?i24 ?l24 ?c24 ?k24 ?a25 ?i25 ?l25 ?c25 ?k25 ?a26 ?l26 ?c26 ?k26 ?a27 ?l27 ?c27 ?k27 ?a28 ?i28 ?l28 ?c28 ?k28 ?a29 ?i29 ?l29 ?c29 ?k29 ?a30 ?i30 ?l30 ?c30 ?k30 ?a31 ?i31 ?l31 ?c31 ?k31 ?a32 ?i32 ?l32 ?c32 ?k32 ?a33 ?i33 ?l33 ?t33 ?c33 ?k33 ?a34 ?i34 ?l34 ?c34 ?k34 ?a35 ?i35 ?l35 ?c35 ?k35 ?a36 ?i36 ?l36 ?c36 ?k36 ?a37 ?i37 ?l37 ?c37 ?k37 ?a38 ?i38 ?l38 ?c38 ?k38 ?a39 ?i39 ?l39 ?c39 ?k39 ?a40 ?i40 ?l40 ?c40 ?k40 ?a41 ?i41 ?l41 ?c41 ?k41 ?a42 ?i42 ?l42 ?c42 ?k42 ?a43 ?i43 ?l43 ?c43 ?k43 ?a44 ?l44 ?c44 ?k44 ?a45 ?l45 ?c45 ?k45 ?a46 ?l46 ?c46 ?k46 ?a47 ?l47 ?c47 ?k47 ?Sh ?Sq ?Ss ?Sv ?Sw ?Sy ?SJ ?SM ?SN ?SQ ?S7 ?S8 ?S9 ?S_ ?Tc ?Td ?Tf ?Tg ?Tj ?Tn ?Tp ?Tq ?Tr ?Tt
  (case iy=>k_is)
  (case Az=>k_is)
  (case DY=>k_is)
  (case D_=>k_is)
  (case Ea=>k_is)
  (case Eb=>k_is)
  (case Ec=>k_is)
  (case Ed=>k_is)
  (case Ef=>k_is)
  (case Eh=>k_is)
  (case Ei=>k_is)
  (case Ek=>k_is)
  (case El=>k_is)
  (case Em=>k_is)
  (case En=>k_is)
  (case Eo=>k_is)
  (case Qn=>k_is)
  (case Qo=>rfl)
  (case Qp=>k_is)
  (case Qq=>k_is)
  (case Qs=>k_is)
  (case Qt=>k_is)
  (case Qu=>k_is)
  (case Qw=>k_is)
  (case Qx=>k_is)
  (case Qy=>k_is)
  (case Qz=>k_is)
  (case QC=>k_is)
  (case QD=>k_is)
  (case QF=>k_is)
  (case QG=>k_is)
  (case QJ=>k_is)
  (case QK=>k_is)
  (case QL=>k_is)
  (case QM=>k_is)
  (case QS=>k_is)
  (case QT=>k_is)
  (case QV=>kts_exm)
  (case QW=>k_is)
  (case QX=>k_is)
  (case QZ=>k_is)
  (case Q5=>k_is)
  (case Q6=>k_is)
  (case Q7=>k_is)
  (case Q8=>k_is)
  (case Q9=>k_is)
  (case Q_=>kit_is)
  (case Ra=>kit_is)
  (case Rb=>kit_is)
  (case Rf=>kit_is)
  (case Rg=>kit_is)
  (case Rh=>kit_is)
  (case Ri=>kit_is)
  (case Rj=>kit_is)
  (case Rk=>kit_is)
  (case Rm=>kit_is)
  (case Ro=>kit_is)
  (case Rp=>kit_is)
  (case Rq=>kit_is)
  (case Rr=>kit_is)
  (case Rv=>kit_is)
  (case Rw=>kit_is)
  (case gG=>k_is)
  (case Rx=>k_is)
  (case Ry=>k_is)
  (case Rz=>k_is)
  (case RG=>k_is)
  (case RJ=>k_is)
  (case RK=>k_is)
  (case RL=>k_is)
  (case RM=>k_is)
  (case RN=>k_is)
  (case RP=>k_is)
  (case RQ=>k_is)
  (case xq=>k_is)
  (case RW=>k_is)
  (case R4=>k_is)
  (case R5=>k_is)
  (case R6=>k_is)
  (case R7=>k_is)
  (case R8=>k_is)
  (case R9=>k_is)
  (case R_=>k_is)
  (case Sd=>k_is)
  (case a0=>k_is)
  (case l0=>k_is)
  (case c0=>k_is)
  (case k0=>k_is)
  (case a1=>k_is)
  (case l1=>k_is)
  (case c1=>k_is)
  (case k1=>k_is)
  (case a2=>k_is)
  (case l2=>k_is)
  (case c2=>k_is)
  (case k2=>k_is)
  (case a3=>k_is)
  (case l3=>k_is)
  (case c3=>k_is)
  (case k3=>k_is)
  (case a4=>k_is)
  (case l4=>k_is)
  (case c4=>k_is)
  (case k4=>k_is)
  (case a5=>k_is)
  (case l5=>k_is)
  (case c5=>k_is)
  (case k5=>k_is)
  (case a6=>k_is)
  (case l6=>k_is)
  (case c6=>k_is)
  (case k6=>k_is)
  (case a7=>k_is)
  (case l7=>k_is)
  (case c7=>k_is)
  (case k7=>k_is)
  (case a8=>k_is)
  (case l8=>k_is)
  (case c8=>k_is)
  (case k8=>k_is)
  (case a9=>k_is)
  (case l9=>k_is)
  (case c9=>k_is)
  (case k9=>k_is)
  (case a10=>k_is)
  (case l10=>k_is)
  (case c10=>k_is)
  (case k10=>k_is)
  (case a11=>k_is)
  (case l11=>k_is)
  (case c11=>k_is)
  (case k11=>k_is)
  (case a12=>k_is)
  (case l12=>k_is)
  (case c12=>k_is)
  (case k12=>k_is)
  (case a13=>k_is)
  (case l13=>k_is)
  (case c13=>k_is)
  (case k13=>k_is)
  (case a14=>k_is)
  (case l14=>k_is)
  (case c14=>k_is)
  (case k14=>k_is)
  (case a15=>k_is)
  (case l15=>k_is)
  (case c15=>k_is)
  (case k15=>k_is)
  (case a16=>k_is)
  (case l16=>k_is)
  (case c16=>k_is)
  (case k16=>k_is)
  (case a17=>k_is)
  (case l17=>k_is)
  (case c17=>k_is)
  (case k17=>k_is)
  (case a18=>k_is)
  (case l18=>k_is)
  (case c18=>k_is)
  (case k18=>k_is)
  (case a19=>k_is)
  (case l19=>k_is)
  (case c19=>k_is)
  (case k19=>k_is)
  (case a20=>k_is)
  (case l20=>k_is)
  (case c20=>k_is)
  (case k20=>k_is)
  (case a21=>k_is)
  (case l21=>k_is)
  (case c21=>k_is)
  (case k21=>k_is)
  (case a22=>k_is)
  (case l22=>k_is)
  (case c22=>k_is)
  (case k22=>k_is)
  (case a23=>k_is)
  (case l23=>k_is)
  (case c23=>k_is)
  (case k23=>k_is)
  (case a24=>k_is)
  (case i24=>k_is)
  (case l24=>k_is)
  (case c24=>k_is)
  (case k24=>k_is)
  (case a25=>k_is)
  (case i25=>k_is)
  (case l25=>k_is)
  (case c25=>k_is)
  (case k25=>k_is)
  (case a26=>k_is)
  (case l26=>k_is)
  (case c26=>k_is)
  (case k26=>k_is)
  (case a27=>k_is)
  (case l27=>k_is)
  (case c27=>k_is)
  (case k27=>k_is)
  (case a28=>k_is)
  (case i28=>k_is)
  (case l28=>k_is)
  (case c28=>k_is)
  (case k28=>k_is)
  (case a29=>k_is)
  (case i29=>k_is)
  (case l29=>k_is)
  (case c29=>k_is)
  (case k29=>k_is)
  (case a30=>k_is)
  (case i30=>k_is)
  (case l30=>k_is)
  (case c30=>k_is)
  (case k30=>k_is)
  (case a31=>k_is)
  (case i31=>k_is)
  (case l31=>k_is)
  (case c31=>k_is)
  (case k31=>k_is)
  (case a32=>k_is)
  (case i32=>k_is)
  (case l32=>k_is)
  (case c32=>k_is)
  (case k32=>k_is)
  (case a33=>k_is)
  (case i33=>k_is)
  (case l33=>k_is)
  (case t33=>k_is)
  (case c33=>k_is)
  (case k33=>k_is)
  (case a34=>k_is)
  (case i34=>k_is)
  (case l34=>k_is)
  (case c34=>k_is)
  (case k34=>k_is)
  (case a35=>k_is)
  (case i35=>k_is)
  (case l35=>k_is)
  (case c35=>k_is)
  (case k35=>k_is)
  (case a36=>k_is)
  (case i36=>k_is)
  (case l36=>k_is)
  (case c36=>k_is)
  (case k36=>k_is)
  (case a37=>k_is)
  (case i37=>k_is)
  (case l37=>k_is)
  (case c37=>k_is)
  (case k37=>k_is)
  (case a38=>k_is)
  (case i38=>k_is)
  (case l38=>k_is)
  (case c38=>k_is)
  (case k38=>k_is)
  (case a39=>k_is)
  (case i39=>k_is)
  (case l39=>k_is)
  (case c39=>k_is)
  (case k39=>k_is)
  (case a40=>k_is)
  (case i40=>k_is)
  (case l40=>k_is)
  (case c40=>k_is)
  (case k40=>k_is)
  (case a41=>k_is)
  (case i41=>k_is)
  (case l41=>k_is)
  (case c41=>k_is)
  (case k41=>k_is)
  (case a42=>k_is)
  (case i42=>k_is)
  (case l42=>k_is)
  (case c42=>k_is)
  (case k42=>k_is)
  (case a43=>k_is)
  (case i43=>k_is)
  (case l43=>k_is)
  (case c43=>k_is)
  (case k43=>k_is)
  (case a44=>k_is)
  (case l44=>k_is)
  (case c44=>k_is)
  (case k44=>k_is)
  (case a45=>k_is)
  (case l45=>k_is)
  (case c45=>k_is)
  (case k45=>k_is)
  (case a46=>k_is)
  (case l46=>k_is)
  (case c46=>k_is)
  (case k46=>k_is)
  (case a47=>k_is)
  (case l47=>k_is)
  (case c47=>k_is)
  (case k47=>k_is)
  (case Sh=>k_is)
  (case Sq=>k_is)
  (case Ss=>k_is)
  (case Sv=>k_is)
  (case Sw=>k_is)
  (case Sy=>k_is)
  (case SJ=>k_is)
  (case SM=>k_is)
  (case SN=>k_is)
  (case SQ=>k_is)
  (case S7=>k_is)
  (case S8=>k_is)
  (case S9=>k_is)
  (case S_=>k_is)
  (case Tc=>k_is)
  (case Td=>k_is)
  (case Tf=>k_is)
  (case Tg=>k_is)
  (case Tj=>k_is)
  (case Tn=>k_is)
  (case Tp=>k_is)
  (case Tq=>k_is)
  (case Tr=>k_is)
  (case Tt=>k_is)
#print axioms PySem.Challenge.cw_limitrun_k11_expressions_refused_holds
