import PyProof.Rows.All
import Wide.All
import OpenK.AllK
import Wide.FinOn
import KE.KStateDown
import HandS.Words
import HandS.Head2
import HandS.HeadHook3
import PySem.Challenge.RW_soundstore_k06_refusals_made
import HandS.ForMost
import HandS.Iter
import HandS.TupAny
import HandS.TupMul
import HandS.TupLe
import HandS.Deep
import HandS.IsInst
import KE.LtData
import KE.SortData
import PyProof.RowDictHeap
import PyProof.ReprRoads
import KE.DataEq
import HandS.RaiseMore
import HandS.Strs
import HandS.Rev
import HandS.Conv
import HandS.Style
import HandS.More
import KE.GoesMore
import KE.GoesEnum
import HandS.SetFor
import KE.KDictPairs
import HandS.Flow
import HandS.NoneIn
import HandS.TupSets
import KE.KeyNested
import KE.KDictCopyH
import KE.KDictSum
import KE.KTupSum
import PyProof.TupleIter
import HandS.Zip
import PyProof.SumAny
import PyProof.ListOps
import PyProof.FactsAll.subtypes_4
import HandS.ExcValue
import PyProof.Rows.IntBool
import PyProof.NeKinds
import HandS.WordsExc
import HandS.ExcCtx
import HandS.ExcIs
import HandS.TryOnly
import HandS.WrittenGet
import HandS.HotCalls
import HandS.Text
set_option Elab.async false
set_option linter.all false
set_option maxRecDepth 1000000
set_option maxHeartbeats 4000000
open PySem.PyData renaming int → Q0, str → Q2, bool → Qg, depthAll → Jk, eqv → Jp, plainAll → Ju
open Option renaming bind_some → Q1, map_eq_some_iff → Qa, bind_eq_some_iff → Qi, some → Qs, map_some → Qx
open List renaming length_map → Q3, getElem?_eq_some_iff → Q5, getElem?_eq_getElem → Q6, mem_append_left → Q7, mem_append_right → Q8, getElem?_append_left → Q9, mem_cons_of_mem → Qb, length_append → Qc, getElem?_map → Qd, mem_cons_self → Qe, all_eq_true → Qh, mem_append → Qj, getElem?_set_ne → Qk, mem_cons → Ql, getElem?_eq_none → Qn, getElem?_append_right → Qo, getElem?_set_self → Qp, map_cons → Qq, mem_singleton → Qt, length_cons → Qu, getElem?_eq_none_iff → Qv, replicate → Qy, append_nil → Qz, contains_iff_mem → Ja, getD_eq_getElem?_getD → Jc, mem_of_getElem? → Jd, filterMap_cons → Jf, not_mem_nil → Ji, lookup_cons → Jj, length_set → Jl, range → Jn, getElem?_replicate → Jo, length_replicate → Js, getElem?_zip_eq_some → Jt, nodup_cons → Jv, mem_map → Jx
open Bool renaming and_eq_true → Q4, false_eq_true → J1, or_eq_true → J3, false_ne_true → Jr
open Nat renaming lt_of_lt_of_le → Qm, ne_of_gt → Qw, le_add_right → J4, le_refl → Jb, ne_of_lt → Je, add_lt_add_left → Jg, zero_le → Jh, le_trans → Jq, le_of_eq → Jw
open Sum renaming inl → Qr, elim → Jm
namespace Z
open PySem PySem.Spec PyProof.Rows L2
abbrev D:=PyData
mutual
def kRp (K:PySem.W.Frag):Nat → Value → Option (V × D)
 | 0,_=>none
 | n + 1,u=>match u with
  | .none=>some (.non,.none)
  | .bool b=>some (.bl b,.bool b)
  | .int i _=>some (.int i,.int i)
  | .str x _=>some (.str x,.str x)
  | .ref a=>match K.lookup a with
   | some ⟨.type "tuple",_,.seq its _,_⟩=>if its.size ≤ sizeLine then (Q6h K n its.toList).map fun p=>(.ref a,.tuple p.2) else none
   | _=>none
  | _=>none
def Q6h (K:PySem.W.Frag):Nat → List Value → Option (List V × List D)
 | 0,_=>none
 | n + 1,us=>match us with
  | []=>some ([],[])
  | u :: r=>match kRp K n u,Q6h K n r with
   | some p,some q=>some (p.1 :: q.1,p.2 :: q.2)
   | _,_=>none
end
def kDn (K:PySem.W.Frag):Value → Bool
 | .ref a=>match K.lookup a with
  | some ⟨.type "tuple",none,_,_⟩=>true
  | _=>false
 | _=>false
def Xf (c d:Str):Bool:=(c == d) || (d == "StoreError")
def Q6A (K:PySem.W.Frag) (C:Addr):Bool:=PySem.W.excIn K C [.type "ValueError",.type "Exception",.type "BaseException",.type "object"] "ValueError.__new__" && PySem.W.keepIn K (.ref C) && (PySem.W.subIn K (.ref C) (.type "BaseException") == some true) && (match PySem.W.typeIn K (.ref C) with | some (.type t)=>t == "type" | _=>false)
 && (match PySem.W.findIn K (.ref C) "__getattribute__" with | some (some (.builtin t))=>t == "BaseException.__getattribute__" | _=>false) && (match PySem.W.findIn K (.ref C) "__getattr__" with | some none=>true | _=>false) && PySem.W.hasDictIn K C
 && (match PySem.W.findIn K (.ref C) "__class__" with | some (some (.builtin t))=>t == "object.__class__" | _=>false) && (match PySem.W.specialIn K (.builtin "object.__class__") "__get__" with | some (some (.builtin t))=>t == "getset_descriptor.__get__" | _=>false) && (PySem.W.takesIn K (.builtin "object.__class__") == some true) && (PySem.W.mroIn K C (.type "object") == some true) && (PySem.W.kitOne K (.ref C) (.type "ValueError") == some true)
def QaS (K:PySem.W.Frag) (ns:List Str):Bool:=ns.all fun c=>match PySem.W.nsIn K mainGlobals c with
 | some (some (.ref C))=>Q6A K C && ns.all fun d=>match PySem.W.nsIn K mainGlobals d with
  | some (some (.ref D))=>(PySem.W.kitOne K (.ref C) (.ref D) == some (Xf c d)) && (PySem.W.exmOne K (.ref C) (.ref D) == some (Xf c d))
  | _=>false
 | _=>false
open He
def Q7f (K:PySem.W.Frag) (x:Str):Option D:=match PySem.W.nsIn K mainGlobals x with
 | some (some u)=>(kRp K 40 u).map (·.2)
 | _=>none
def QbT (o:Obj):List Addr:=He.refV o.cls ++ match o.data with
 | .seq its _=>its.toList.flatMap He.refV
 | .dict es _=>es.toList.flatMap fun e=>He.refV e.val
 | .func fd=>He.refV fd.code
 | .cls cd=>cd.ns :: cd.mro.flatMap He.refV
 | _=>[]
def rfZ (g:Addr → Option Obj) (as:List Addr):List Addr:=as.flatMap fun a=>match g a with
 | some o=>QbT o
 | none=>[]
def asZ (g:Addr → Option Obj):List Addr:=(fun r1:List Addr=>(fun r2:List Addr=>(fun r3:List Addr=>mainGlobals :: (r1 ++ (r2 ++ (r3 ++ rfZ g r3)))) (rfZ g r2)) (rfZ g r1)) (rfZ g [mainGlobals])
abbrev AlZ:Type:=(AlT × Bool) × List (Option D)
def Qal (fa:List Fa) (fn:List DefD) (ts:List He.Tab) (ex:PySem.W.Frag → Bool) (cs:List (Str × D)) (g:Addr → Option Obj):AlZ:=((obsT fa fn ts (frG g (asZ g)),ex (frG g (asZ g))),cs.map fun c=>Q7f (frG g (asZ g)) c.1)
def valZ (fn:List DefD) (ts:List He.Tab) (cs:List (Str × D)) (w:World):AlZ:=((valT fn ts w,true),cs.map fun c=>some c.2)
structure Vg (fa:List Fa) (fn:List DefD) (ts:List He.Tab) (ex:PySem.W.Frag → Bool) (cs:List (Str × D)) (w:World) (K:PySem.W.Frag):Prop where
 t:SaysT fa fn ts w K
 more:ex K = true
 cs:cs.map (fun c=>Q7f K c.1) = cs.map fun c=>some c.2
def Q9D (fa:List Fa) (fn:List DefD) (ts:List He.Tab) (ex:PySem.W.Frag → Bool) (cs:List (Str × D)):PySem.W.Hook where
 α:=AlZ
 obs:=fun s=>Qal fa fn ts ex cs s.heap.get?
 val:=fun w=>valZ fn ts cs w
 says:=fun w h=>∃ K:PySem.W.Frag,K.In h ∧ Vg fa fn ts ex cs w K
 of:=fun _ _ e=>⟨_,frG_in,⟨congrArg (fun z:AlZ=>z.1.1) e,congrArg (fun z:AlZ=>z.1.2) e,congrArg (fun z:AlZ=>z.2) e⟩⟩
 keeps:=fun _ _ _ ⟨K,hK,c⟩ k=>⟨K,PySem.W.Frag.In.keeps hK k,c⟩
theorem Q8T {fa:List Fa} {fn:List DefD} {ts:List He.Tab} {ex:PySem.W.Frag → Bool} {cs:List (Str × D)} {g:Addr → Option Obj} {s:Shared} (h:∀ a,g a = s.heap.get? a):Qal fa fn ts ex cs g = (Q9D fa fn ts ex cs).obs s:=by
 have e:g = s.heap.get?:=funext h
 rw [e] <;> rfl
abbrev dt (x d:Str) (st:Stmt):DefD:=⟨(x,none),d,d,defArgs st,defBody st,defScope st,[],[]⟩
end Z
namespace Z
open PySem
end Z
namespace Z
open PySem
end Z
namespace Z
open PySem PySem.W PySem.Calls PyProof.Rows
open He (Fa DefD)
def Q4U (r:OpenRow) (M:Nat) (w:World) {α:Type} (f:SharedT → α) (v:α):Prop:=∀ os:OsState,(HandSHeadRun.endF (HandSHeadRun.stepQ (HandSHeadRun.denQ HandSHeadRun.tabQ) r.prog w) M r.prog w os).map f = some v
theorem Q4U.two {r:OpenRow} {M:Nat} {w:World} {α β:Type} {f:SharedT → α} {g:SharedT → β} {a:α} {b:β} (p:Q4U r M w f a) (q:Q4U r M w g b):Q4U r M w (fun s=>(f s,g s)) (a,b):=fun os=>by
 have p:=p os
 have q:=q os
 cases e:HandSHeadRun.endF (HandSHeadRun.stepQ (HandSHeadRun.denQ HandSHeadRun.tabQ) r.prog w) M r.prog w os with
 | none=>rw [e] at p; cases p
 | some s =>
  rw [e] at p q
  have p:f s = a:=Qs.inj p
  have q:g s = b:=Qs.inj q
  show some (f s,g s) = some (a,b)
  rw [p,q]
theorem Q4U.to {r:OpenRow} {M:Nat} {w:World} {α β:Type} {f:SharedT → α} {a:α} (p:Q4U r M w f a) (k:SharedT → β) (b:β) (h:∀ s,f s = a → k s = b):Q4U r M w k b:=fun os=>by
 have p:=p os
 cases e:HandSHeadRun.endF (HandSHeadRun.stepQ (HandSHeadRun.denQ HandSHeadRun.tabQ) r.prog w) M r.prog w os with
 | none=>rw [e] at p; cases p
 | some s =>
  rw [e] at p
  have p:f s = a:=Qs.inj p
  show some (k s) = some b
  rw [h s p]
end Z
namespace K06
open PySem PySem.Spec PyProof.Rows L2 Z
def W2 (i:Nat):Stmt:=PySem.Challenge.pw_soundstore_k06_refusals_made.main.body.getD i (.Pass ⟨0,0,0,0⟩)
def hdX:List Str:=["StoreError", "NoText", "Unsound", "NoPath", "NoWorths", "NoName", "Ring", "Taken", "NotEmpty", "Full", "NoPlace", "NoBack", "NoRow"]
def QbV:List He.Fa:=[.glo "is_number",.glo "is_shape",.glo "many_cells",.glo "is_store",.glo "map_first",.glo "block_first",.glo "log_first",.glo "lines_of",.glo "number_in",.glo "read_store",.glo "_law_deck",.glo "_law_draw",.glo "_law_pick",.glo "_law_raise",.glo "_law_heard",.glo "law",.free "ValueError",.free "all",.free "bool",.free "int",.free "isinstance",.free "len",.free "list",.free "range",.free "reversed",.free "str",.free "sum",.free "tuple",.free "zip"]
def Qaj:List He.Fa:=QbV
def QbF:List He.DefD:=[dt "is_number" "is_number" (W2 23),dt "is_shape" "is_shape" (W2 24),dt "many_cells" "many_cells" (W2 25),dt "is_store" "is_store" (W2 26),dt "map_first" "map_first" (W2 28),dt "block_first" "block_first" (W2 29),dt "log_first" "log_first" (W2 30),dt "lines_of" "lines_of" (W2 34),dt "number_in" "number_in" (W2 35),dt "read_store" "read_store" (W2 36),dt "_law_deck" "_law_deck" (W2 38),dt "_law_draw" "_law_draw" (W2 39),dt "_law_pick" "_law_pick" (W2 40),dt "_law_raise" "_law_raise" (W2 41),dt "_law_heard" "_law_heard" (W2 42),dt "law" "law" (W2 43)]
def QaU:List He.DefD:=QbF
def QaV:List He.Tab:=[]
def QaM:List (Str × D):=[("BLOCK_CELLS",.int 4),("FIGURES",.str "0123456789"),("HEAD_CELLS",.int 7),("LEAST_BLOCKS",.int 3),("LEAST_HEADS",.int 2),("LOG_CELLS",.int 82),("MOST_BLOCKS",.int 12),("MOST_FIGURES",.int 40),("MOST_HEADS",.int 8)]
def Q8I (K:PySem.W.Frag):Bool:=QaS K hdX
def Qbz:List Str:=["__name__", "StoreError", "NoText", "Unsound", "NoPath", "NoWorths", "NoName", "Ring", "Taken", "NotEmpty", "Full", "NoPlace", "NoBack", "NoRow", "LEAST_HEADS", "MOST_HEADS", "LEAST_BLOCKS", "MOST_BLOCKS", "HEAD_CELLS", "BLOCK_CELLS", "PAIRS", "LOG_CELLS", "is_number", "is_shape"]
def QbW:List Str:=["many_cells", "is_store", "map_first", "block_first", "log_first", "FIGURES", "MOST_FIGURES", "lines_of", "number_in", "read_store", "_law_deck", "_law_draw", "_law_pick", "_law_raise", "_law_heard"]
def hdNm:List Str:=Qbz ++ QbW
abbrev hdR:PySem.W.OpenRow:=PySem.W.OpenLaw.row PySem.Challenge.rw_soundstore_k06_refusals_made
abbrev hdQ:Program:=PySem.W.view hdR.prog [43]
abbrev hdH:PySem.W.Hook:=Q9D Qaj QaU QaV Q8I QaM
def hdO (s:PySem.W.SharedT):AlZ:=Qal Qaj QaU QaV Q8I QaM (HandSHeadRun.getT s)
theorem hdO_eq (s:PySem.W.SharedT):hdO s = hdH.obs s.abs:=Q8T (HandSHeadRun.getT_eq s)
theorem Q5P (w:World):HandSHeadRun.RunEq hdR hdQ hdH hdO 12000 hdNm (w.withFollow "special-get-raises" false):=by
 intro os
 kernel_rfl
theorem Q6k (w:World):HandSHeadRun.RunEq hdR hdQ hdH hdO 12000 hdNm (w.withFollow "special-get-raises" true):=by
 intro os
 kernel_rfl
theorem run_w (w:World):HandSHeadRun.RunEq hdR hdQ hdH hdO 12000 hdNm w:=PySem.W.byRow2 "special-get-raises" (P:=fun w=>HandSHeadRun.RunEq hdR hdQ hdH hdO 12000 hdNm w) Q5P Q6k w
end K06
namespace K06
open PySem PySem.W PySem.Calls PyProof.Rows
theorem hd_o (h:OpenRow.wellSaid (OpenLaw.row PySem.Challenge.rw_soundstore_k06_refusals_made) = true → OpenRow.Holds (OpenLaw.row PySem.Challenge.rw_soundstore_k06_refusals_made)):OpenLaw.Holds PySem.Challenge.rw_soundstore_k06_refusals_made:=by
 o_law
 rename_i q
 exact h q
abbrev hdD:DefRec:=HandSHeadRun.topDef hdR.prog 43
theorem hd_e:opening hdR.prog = plainProg hdR.prog.main.scope.names:=by kernel_rfl
theorem hd_f:∀ s,fenceModules? hdR.prog s = some s:=fun s=>by kernel_rfl
theorem hd_d:defOf hdQ hdR.name = some (hdD,[]):=by kernel_rfl
theorem hd_p:hdR.prog.theDef hdR.name = some (hdD.params,hdD.body,hdD.scope):=by kernel_rfl
theorem hd_k:kwWritten? hdD.params.kwonlyargs hdD.params.kw_defaults = some []:=by kernel_rfl
theorem hd_1:(!hdR.writes || hdR.records.isEmpty) = true:=by rfl
theorem hd_3:(chainsOk hdQ && opensWell hdR.prog && (frees hdR.toRowW && hdR.within.isEmpty)) = true:=by decide +kernel
theorem hd_4:hdR.prog.bare:=⟨rfl,rfl,rfl,rfl,rfl,by decide +kernel⟩
end K06
namespace Z
open PySem PySem.Spec PyProof.Rows L2
def Q2N:Key → D
 | .inl i=>.int i
 | .inr s=>.str s
mutual
/-- the value v is the datum d,in the part G of the heap -/
inductive Rp (K:PySem.W.Frag) (G:Hp):V → D → Prop
 | non:Rp K G .non .none
 | bl (b:Bool):Rp K G (.bl b) (.bool b)
 | int (i:Int):Rp K G (.int i) (.int i)
 | str (x:Str):Rp K G (.str x) (.str x)
 | lst {a:Addr} {xs:List V} {ds:List D}:G a = some (.lst xs) → Rps K G xs ds → Rp K G (.ref a) (.list ds)
 | tup {a:Addr} {xs:List V} {ds:List D}:SqT K G a xs → Rps K G xs ds → Rp K G (.ref a) (.tuple ds)
 | dic {a:Addr} {o:Obj} {kvs:List (Key × V)} {ds:List (D × D)}:G a = some (.frz o (.dK kvs)) → RpK K G kvs ds → Rp K G (.ref a) (.dict ds)
inductive Rps (K:PySem.W.Frag) (G:Hp):List V → List D → Prop
 | nil:Rps K G [] []
 | cons {v:V} {vs:List V} {d:D} {ds:List D}:Rp K G v d → Rps K G vs ds → Rps K G (v :: vs) (d :: ds)
inductive RpK (K:PySem.W.Frag) (G:Hp):List (Key × V) → List (D × D) → Prop
 | nil:RpK K G [] []
 | cons {k:Key} {v:V} {r:List (Key × V)} {d:D} {ds:List (D × D)}:Rp K G v d → RpK K G r ds → RpK K G ((k,v) :: r) ((Q2N k,d) :: ds)
end
theorem Same.sqt {K:PySem.W.Frag} {H H':Hp} {a:Addr} {xs:List V} (e:Same H H') (h:SqT K H a xs):SqT K H' a xs:=by
 rcases h with h | h
 ·rcases h with h | ⟨o,h⟩
  ·exact .inl (.inl (e _ _ h))
  ·exact .inl (.inr ⟨o,e _ _ h⟩)
 ·exact .inr h
section
variable {K:PySem.W.Frag} {G G':Hp}
mutual
theorem Rp.mono (e:Same G G'):∀ {v:V} {d:D},Rp K G v d → Rp K G' v d
 | _,_,.non=>.non
 | _,_,.bl b=>.bl b
 | _,_,.int i=>.int i
 | _,_,.str x=>.str x
 | _,_,.lst h r=>.lst (e _ _ h) (Rps.mono e r)
 | _,_,.tup h r=>.tup (Same.sqt e h) (Rps.mono e r)
 | _,_,.dic h r=>.dic (e _ _ h) (RpK.mono e r)
theorem Rps.mono (e:Same G G'):∀ {vs:List V} {ds:List D},Rps K G vs ds → Rps K G' vs ds
 | _,_,.nil=>.nil
 | _,_,.cons h r=>.cons (Rp.mono e h) (Rps.mono e r)
theorem RpK.mono (e:Same G G'):∀ {vs:List (Key × V)} {ds:List (D × D)},RpK K G vs ds → RpK K G' vs ds
 | _,_,.nil=>.nil
 | _,_,.cons h r=>.cons (Rp.mono e h) (RpK.mono e r)
end
theorem Rps.length:∀ {vs:List V} {ds:List D},Rps K G vs ds → vs.length = ds.length
 | _,_,.nil=>rfl
 | _,_,.cons _ r=>congrArg (· + 1) r.length
theorem Rps.append:∀ {vs ws:List V} {ds es:List D},Rps K G vs ds → Rps K G ws es → Rps K G (vs ++ ws) (ds ++ es)
 | _,_,_,_,.nil,s=>s
 | _,_,_,_,.cons h r,s=>.cons h (r.append s)
theorem Rps.take:∀ {vs:List V} {ds:List D} (n:Nat),Rps K G vs ds → Rps K G (vs.take n) (ds.take n)
 | _,_,0,_=>by simpa using Rps.nil
 | _,_,_ + 1,.nil=>by simpa using Rps.nil
 | _,_,n + 1,.cons h r=>by simpa using Rps.cons h (r.take n)
theorem Rps.drop:∀ {vs:List V} {ds:List D} (n:Nat),Rps K G vs ds → Rps K G (vs.drop n) (ds.drop n)
 | _,_,0,r=>r
 | _,_,_ + 1,.nil=>.nil
 | _,_,n + 1,.cons _ r=>r.drop n
theorem Rps.get:∀ {vs:List V} {ds:List D} {i:Nat} {d:D},Rps K G vs ds → ds[i]? = some d → ∃ v,vs[i]? = some v ∧ Rp K G v d
 | _,_,_,_,.nil,e=>by simp at e
 | _,_,0,_,.cons h _,e=>by simp at e; subst e; exact ⟨_,rfl,h⟩
 | _,_,i + 1,d,.cons _ r,e=>by
  obtain ⟨v,h1,h2⟩:=Rps.get (i:=i) (d:=d) r (by simpa using e)
  exact ⟨v,by simpa using h1,h2⟩
theorem Rps.set:∀ {vs:List V} {ds:List D} {v:V} {d:D} (i:Nat),Rps K G vs ds → Rp K G v d → Rps K G (vs.set i v) (ds.set i d)
 | _,_,_,_,_,.nil,_=>.nil
 | _,_,_,_,0,.cons _ r,h=>.cons h r
 | _,_,_,_,i + 1,.cons q r,h=>.cons q (r.set i h)
theorem Rps.ints:∀ {vs:List V} {ns:List Int},Rps K G vs (ns.map Q0) → vs = ns.map V.int
 | _,[],.nil=>rfl
 | _,n :: ns,.cons h r=>by
  cases h
  rw [r.ints]
  rfl
theorem Q2s:∀ (ns:List Int),Rps K G (ns.map V.int) (ns.map Q0)
 | []=>.nil
 | n :: ns=>.cons (.int n) (Q2s ns)
end
mutual
def noL:D → Bool
 | .list _=>false
 | .dict _=>false
 | .tuple xs=>Q8y xs
 | _=>true
def Q8y:List D → Bool
 | []=>true
 | x :: xs=>noL x && Q8y xs
end
section
variable {K:PySem.W.Frag} {G G':Hp}
mutual
/-- tuples alone are looked at -/
theorem Rp.flat (e:∀ a xs,SqT K G a xs → SqT K G' a xs):∀ {v:V} {d:D},noL d = true → Rp K G v d → Rp K G' v d
 | _,_,_,.non=>.non
 | _,_,_,.bl b=>.bl b
 | _,_,_,.int i=>.int i
 | _,_,_,.str x=>.str x
 | _,_,h0,.lst _ _=>by simp [noL] at h0
 | _,_,h0,.tup h r=>.tup (e _ _ h) (Rps.flat e (by simpa [noL] using h0) r)
 | _,_,h0,.dic _ _=>by simp [noL] at h0
theorem Rps.flat (e:∀ a xs,SqT K G a xs → SqT K G' a xs):∀ {vs:List V} {ds:List D},Q8y ds = true → Rps K G vs ds → Rps K G' vs ds
 | _,_,_,.nil=>.nil
 | _,_,h0,.cons h r=>by
  simp only [Q8y,Q4] at h0
  exact .cons (Rp.flat e h0.1 h) (Rps.flat e h0.2 r)
end
end
inductive Sl where
 /-- nothing is known -/
 | no
 /-- a datum -/
 | fz (d:D)
 /-- a list or dict of the frame's own: nobody else knows it -/
 | ow (d:D)
 /-- an own dict while it is locked -/
 | lk (ds:List (D × D))
 /-- a law's deck -/
 | dk (cs:List Int) (m n:Int)
 /-- the script -/
 | scr (ns:List Int)
 /-- an object of the frame's own: its class,its fields and their slots -/
 | ob (c:Str) (fs:List (Str × Nat))
 /-- a field that isn't there yet -/
 | ab
 /-- a caught exception -/
 | xv (a:Addr)
 /-- an own dict of own lists -/
 | dl (ds:List (D × D))
inductive Fr where
 | n | l | t | p
 | s (j:Nat)
def Kc (K:PySem.W.Frag) (F H:Hp) (p:Addr):D → Prop
 | .list ds=>∃ xs,H p = some (.lst xs) ∧ Rps K F xs ds
 | .dict ds=>∃ kvs,H p = some (.dK kvs) ∧ RpK K F kvs ds
 | _=>False
def Q3r (K:PySem.W.Frag) (F H:Hp) (p:Addr):D → Prop
 | .list ds=>∃ xs,H p = some (.lst xs) ∧ Rps K F xs ds
 | .dict ds=>∃ o kvs,H p = some (.frz o (.dK kvs)) ∧ RpK K F kvs ds
 | _=>False
def PlT (K:PySem.W.Frag) (F:Hp) (v:V) (d:D):Prop:=∃ (p:Addr) (o:Obj) (xs:List V) (ds:List D),v = .ref p ∧ d = .tuple ds ∧ F p = some (.frz o (.tup xs)) ∧ o.dict = none ∧ Rps K F xs ds
def Vf (K:PySem.W.Frag) (c:Str) (C:Addr):Prop:=PySem.W.nsIn K mainGlobals c = some (some (.ref C))
inductive DLs (K:PySem.W.Frag) (F H:Hp):List (Key × V) → List (D × D) → List Addr → Prop
 | nil:DLs K F H [] [] []
 | cons {k:Key} {q:Addr} {xs:List V} {ds:List D} {r:List (Key × V)} {s:List (D × D)} {A:List Addr}:H q = some (.lst xs) → Rps K F xs ds → DLs K F H r s A → DLs K F H ((k,.ref q) :: r) ((Q2N k,.list ds) :: s) (q :: A)
theorem DLs.mono {K:PySem.W.Frag} {F F' H H':Hp} (e:Same F F'):∀ {kvs:List (Key × V)} {ds:List (D × D)} {A:List Addr},(∀ a ∈ A,H' a = H a) → DLs K F H kvs ds A → DLs K F' H' kvs ds A
 | _,_,_,_,.nil=>.nil
 | _,_,_,k,.cons h r t=>.cons (by rw [k _ (by simp)]; exact h) (r.mono e) (t.mono e fun a ha=>k a (Qb _ ha))
theorem DLs.there {K:PySem.W.Frag} {F H:Hp}:∀ {kvs:List (Key × V)} {ds:List (D × D)} {A:List Addr},DLs K F H kvs ds A → ∀ a ∈ A,∃ xs,H a = some (.lst xs)
 | _,_,_,.nil,a,ha=>by simp at ha
 | _,_,_,.cons h _ t,a,ha=>by
  rcases Ql.mp ha with rfl | m
  ·exact ⟨_,h⟩
  ·exact t.there a m
def Vy (K:PySem.W.Frag) (F H:Hp):Sl → Option V → List Addr → Prop
 | .no,_,A=>A = []
 | .fz d,v,A=>A = [] ∧ ∃ x,v = some x ∧ Rp K F x d
 | .ow d,v,A=>∃ p,v = some (.ref p) ∧ A = [p] ∧ Kc K F H p d
 | .lk ds,v,A=>∃ p,v = some (.ref p) ∧ A = [p] ∧ Q3r K F H p (.dict ds)
 | .dk cs m n,v,A=>∃ p q,v = some (.ref p) ∧ A = [p,q] ∧ H p = some (.lst [.ref q,.int m,.int n]) ∧ H q = some (.lst (cs.map V.int))
 | .scr ns,v,A=>A = [] ∧ ∃ a,v = some (.ref a) ∧ SqL K F a (ns.map V.int)
 | .ab,v,A=>A = [] ∧ v = none
 | .xv a,v,A=>A = [] ∧ v = some (.ref a)
 | .dl ds,v,A=>∃ p kvs qs,v = some (.ref p) ∧ A = p :: qs ∧ (p :: qs).Nodup ∧ (kvs.map (·.1)).Nodup ∧ H p = some (.dK kvs) ∧ DLs K F H kvs ds qs
 | .ob c _,v,A=>∃ p dx C fvs,v = some (.ref p) ∧ A = [p,dx] ∧ Vf K c C ∧ H p = some (.ins C dx fvs) ∧ H dx = some (.own p)
def jn (o:Option (Option V)):Option V:=o.join
structure Iom where
 f:Nat → Bool
 mv:Nat → Bool
instance:CoeFun Iom (fun _=>Nat → Bool):=⟨Iom.f⟩
def Iom.of (f:Nat → Bool):Iom:=⟨f,fun _=>false⟩
structure Fx where
 /-- slots that no statement stores to -/
 io:Iom
 /-- slots that are lent by the caller -/
 lt:Nat → Bool
 /-- fields of objects -/
 vt:Nat → Bool
 H0:Hp
 F0:Hp
 σ0:L2.St
 A0:Nat → List Addr
 mvl:∀ i,io.mv i = true → lt i = false
def Q0r (σ:L2.St) (fs:List (Str × Nat)):List (Str × V):=fs.filterMap fun q=>(jn σ[q.2]?).map fun v=>(q.1,v)
def Fx.any:Fx:=⟨Iom.of fun _=>false,fun _=>false,fun _=>false,fun _=>none,fun _=>none,[],fun _=>[],fun _ _=>rfl⟩
def ObR (io:Nat → Bool) (H:Hp) (v:Option V) (σ:L2.St) (fs:List (Str × Nat)):Prop:=(∀ q ∈ fs,io q.2 = true) ∧ ∀ p C dx fvs,v = some (.ref p) → H p = some (.ins C dx fvs) → fvs = Q0r σ fs
structure SR (K:PySem.W.Frag) (Y:Fx) (F H:Hp) (δ:List Sl) (σ:L2.St) (A:Nat → List Addr):Prop where
 len:δ.length = σ.length
 slot:∀ i s,δ[i]? = some s → Vy K F H s (jn σ[i]?) (A i)
 out:∀ i,δ[i]? = none → A i = []
 dis:∀ i j a,a ∈ A i → a ∈ A j → i = j
 hid:∀ i a,a ∈ A i → F a = none
 new:∀ i a,a ∈ A i → Y.lt i = false → Y.H0 a = none
 sub:Same F H
 fix:∀ i,Y.lt i = true → σ[i]? = Y.σ0[i]? ∧ A i = Y.A0 i
 ioA:∀ i,Y.lt i = true → True
 kp:∀ a o,Y.H0 a = some o → (∀ i,Y.lt i = true → a ∉ Y.A0 i) → H a = some o
 nw:∀ a,Y.F0 a = none → F a ≠ none → Y.H0 a = none
 f0:Same Y.F0 F
 lio:∀ i,(Y.lt i = true ∨ Y.vt i = true) → Y.io i = true
 ob:∀ (i:Nat) (c:Str) (fs:List (Str × Nat)),δ[i]? = some (Sl.ob c fs) → ObR Y.vt H (jn σ[i]?) σ fs
 vno:∀ (j:Nat),Y.io j = true → δ[j]? ≠ some Sl.no
theorem Kc.mono {K:PySem.W.Frag} {F F' H H':Hp} {p:Addr} {d:D} (e:Same F F') (k:H' p = H p) (h:Kc K F H p d):Kc K F' H' p d:=by
 cases d with
 | list ds=>obtain ⟨xs,h1,h2⟩:=h; exact ⟨xs,by rw [k]; exact h1,h2.mono e⟩
 | dict ds=>obtain ⟨xs,h1,h2⟩:=h; exact ⟨xs,by rw [k]; exact h1,h2.mono e⟩
 | _=>exact h.elim
theorem Kc.there {K:PySem.W.Frag} {F H:Hp} {p:Addr} {d:D} (h:Kc K F H p d):(∃ xs,H p = some (.lst xs)) ∨ ∃ kvs,H p = some (.dK kvs):=by
 cases d with
 | list ds=>obtain ⟨xs,h1,_⟩:=h; exact .inl ⟨_,h1⟩
 | dict ds=>obtain ⟨xs,h1,_⟩:=h; exact .inr ⟨_,h1⟩
 | _=>exact h.elim
theorem Q3r.mono {K:PySem.W.Frag} {F F' H H':Hp} {p:Addr} {d:D} (e:Same F F') (k:H' p = H p) (h:Q3r K F H p d):Q3r K F' H' p d:=by
 cases d with
 | list ds=>obtain ⟨xs,h1,h2⟩:=h; exact ⟨xs,by rw [k]; exact h1,h2.mono e⟩
 | dict ds=>obtain ⟨o,xs,h1,h2⟩:=h; exact ⟨o,xs,by rw [k]; exact h1,h2.mono e⟩
 | _=>exact h.elim
def Thr (H:Hp) (a:Addr):Prop:=(∃ xs,H a = some (.lst xs)) ∨ (∃ kvs,H a = some (.dK kvs)) ∨ (∃ o kvs,H a = some (.frz o (.dK kvs))) ∨ (∃ C dx fs,H a = some (.ins C dx fs)) ∨ ∃ b,H a = some (.own b)
theorem Thr.some {H:Hp} {a:Addr} (h:Thr H a):∃ u,H a = some u:=by
 rcases h with ⟨_,e⟩ | ⟨_,e⟩ | ⟨_,_,e⟩ | ⟨_,_,_,e⟩ | ⟨_,e⟩ <;> exact ⟨_,e⟩
theorem Q3r.there {K:PySem.W.Frag} {F H:Hp} {p:Addr} {d:D} (h:Q3r K F H p d):Thr H p:=by
 cases d with
 | list ds=>obtain ⟨xs,h1,_⟩:=h; exact .inl ⟨_,h1⟩
 | dict ds=>obtain ⟨o,xs,h1,_⟩:=h; exact .inr (.inr (.inl ⟨_,_,h1⟩))
 | _=>exact h.elim
theorem Kc.thr {K:PySem.W.Frag} {F H:Hp} {p:Addr} {d:D} (h:Kc K F H p d):Thr H p:=by
 rcases h.there with e | e
 ·exact .inl e
 ·exact .inr (.inl e)
theorem Vy.there {K:PySem.W.Frag} {F H:Hp} {s:Sl} {v:Option V} {A:List Addr} (h:Vy K F H s v A) {a:Addr} (ha:a ∈ A):Thr H a:=by
 cases s with
 | no=>cases h; simp at ha
 | fz d=>obtain ⟨e,_⟩:=h; subst e; simp at ha
 | ow d=>obtain ⟨p,_,e,o⟩:=h; subst e; simp at ha; subst ha; exact o.thr
 | lk d=>obtain ⟨p,_,e,o⟩:=h; subst e; simp at ha; subst ha; exact o.there
 | dk cs m n =>
  obtain ⟨p,q,_,e,h1,h2⟩:=h
  subst e
  simp at ha
  rcases ha with rfl | rfl
  ·exact .inl ⟨_,h1⟩
  ·exact .inl ⟨_,h2⟩
 | scr ns=>obtain ⟨e,_⟩:=h; subst e; simp at ha
 | ab=>obtain ⟨e,_⟩:=h; subst e; simp at ha
 | xv a=>obtain ⟨e,_⟩:=h; subst e; simp at ha
 | dl ds =>
  obtain ⟨p,kvs,qs,_,e,_,_,h1,h2⟩:=h
  subst e
  rcases Ql.mp ha with rfl | m
  ·exact .inr (.inl ⟨_,h1⟩)
  ·exact .inl (h2.there a m)
 | ob c fs =>
  obtain ⟨p,dx,C,fvs,_,e,_,h1,h2⟩:=h
  subst e
  simp at ha
  rcases ha with rfl | rfl
  ·exact .inr (.inr (.inr (.inl ⟨_,_,_,h1⟩)))
  ·exact .inr (.inr (.inr (.inr ⟨_,h2⟩)))
theorem Vy.mono {K:PySem.W.Frag} {F F' H H':Hp} {s:Sl} {v:Option V} {A:List Addr} (e:Same F F') (k:∀ a ∈ A,H' a = H a) (h:Vy K F H s v A):Vy K F' H' s v A:=by
 cases s with
 | no=>exact h
 | fz d=>obtain ⟨e1,x,e2,r⟩:=h; exact ⟨e1,x,e2,r.mono e⟩
 | ow d=>obtain ⟨p,e1,e2,o⟩:=h; subst e2; exact ⟨p,e1,rfl,o.mono e (k p (by simp))⟩
 | lk d=>obtain ⟨p,e1,e2,o⟩:=h; subst e2; exact ⟨p,e1,rfl,o.mono e (k p (by simp))⟩
 | dk cs m n =>
  obtain ⟨p,q,e1,e2,h1,h2⟩:=h
  subst e2
  exact ⟨p,q,e1,rfl,by rw [k p (by simp)]; exact h1,by rw [k q (by simp)]; exact h2⟩
 | scr ns=>obtain ⟨e1,a,e2,r⟩:=h; exact ⟨e1,a,e2,e.seq r⟩
 | ab=>exact h
 | xv a=>exact h
 | dl ds =>
  obtain ⟨p,kvs,qs,e1,e2,nd,nk,h1,h2⟩:=h
  subst e2
  exact ⟨p,kvs,qs,e1,rfl,nd,nk,by rw [k p (by simp)]; exact h1,h2.mono e fun a ha=>k a (Qb _ ha)⟩
 | ob c fs =>
  obtain ⟨p,dx,C,fvs,e1,e2,e3,h1,h2⟩:=h
  subst e2
  exact ⟨p,dx,C,fvs,e1,rfl,e3,by rw [k p (by simp)]; exact h1,by rw [k dx (by simp)]; exact h2⟩
section
variable {K:PySem.W.Frag} {Y:Fx} {F F' F1 F2 H H' H1 H2:Hp} {δ δ':List Sl} {σ:L2.St} {A:Nat → List Addr} {M M' R R':List Nat}
theorem SR.there (S:SR K Y F H δ σ A) {i:Nat} {a:Addr} (ha:a ∈ A i):Thr H a:=by
 cases e:δ[i]? with
 | none=>rw [S.out i e] at ha; simp at ha
 | some s=>exact (S.slot i s e).there ha
theorem SR.isSome (S:SR K Y F H δ σ A) {i:Nat} {a:Addr} (ha:a ∈ A i):H a ≠ none:=by
 obtain ⟨u,e⟩:=(S.there ha).some
 rw [e]; simp
theorem SR.nlt (S:SR K Y F H δ σ A) {i:Nat} (h:Y.io i = false):Y.lt i = false:=by
 cases e:Y.lt i with
 | false=>rfl
 | true=>rw [S.lio i (.inl e)] at h; cases h
theorem SR.nvt (S:SR K Y F H δ σ A) {i:Nat} (h:Y.io i = false):Y.vt i = false:=by
 cases e:Y.vt i with
 | false=>rfl
 | true=>rw [S.lio i (.inr e)] at h; cases h
theorem SR.obp (S:SR K Y F H δ σ A) {i:Nat} {c:Str} {fs:List (Str × Nat)} {p:Addr} (h:δ[i]? = some (.ob c fs)) (e:jn σ[i]? = some (.ref p)):p ∈ A i:=by
 obtain ⟨q,dx,C,fvs,e1,e2,_⟩:=S.slot i _ h
 rw [e] at e1
 cases e1
 rw [e2]
 simp
theorem SR.obK (S:SR K Y F H δ σ A) (k:∀ (i:Nat) (c:Str) (fs:List (Str × Nat)),δ[i]? = some (Sl.ob c fs) → ∀ a ∈ A i,H' a = H a):∀ (i:Nat) (c:Str) (fs:List (Str × Nat)),δ[i]? = some (Sl.ob c fs) → ObR Y.vt H' (jn σ[i]?) σ fs:=fun i c fs h=>by
 obtain ⟨h1,h2⟩:=S.ob i c fs h
 refine ⟨h1,fun p C dx fvs e1 e2=>h2 p C dx fvs e1 ?_⟩
 rw [← k i c fs h p (S.obp h e1)]
 exact e2
structure Stp (A:Nat → List Addr) (M:List Nat) (F H F' H':Hp):Prop where
 f:Same F F'
 nw:∀ a,F a = none → F' a ≠ none → H a = none
 kp:∀ a o,H a = some o → (∀ i ∈ M,a ∉ A i) → H' a = some o
theorem Stp.refl:Stp A M F H F H:=⟨Same.refl _,fun _ h h'=>absurd h h',fun _ _ h _=>h⟩
theorem Stp.mono (h:Stp A M F H F' H') (s:∀ i ∈ M,i ∈ M'):Stp A M' F H F' H':=⟨h.f,h.nw,fun a o e n=>h.kp a o e fun i hi=>n i (s i hi)⟩
theorem Stp.trans (S1:SR K Y F1 H1 δ' σ A) (h:Stp A M F H F1 H1) (h':Stp A M' F1 H1 F2 H2):Stp A (M ++ M') F H F2 H2:=by
 refine ⟨h.f.trans h'.f,fun a e n=>?_,fun a o e n=>?_⟩
 ·cases e1:F1 a with
  | some o=>exact h.nw a e (by rw [e1]; simp)
  | none =>
   have q:=h'.nw a e1 n
   cases e2:H a with
   | none=>rfl
   | some o =>
    by_cases c:∃ i ∈ M,a ∈ A i
    ·obtain ⟨i,_,hi⟩:=c
     exact absurd q (S1.isSome hi)
    ·rw [h.kp a o e2 fun i hi z=>c ⟨i,hi,z⟩] at q
     cases q
 ·exact h'.kp a o (h.kp a o e fun i hi=>n i (Q7 _ hi)) fun i hi=>n i (Q8 _ hi)
def ex (R:List Nat) (A:Nat → List Addr) (F H:Hp):Hp:=fun a=>if ∃ i ∈ R,a ∈ A i then H a else F a
theorem Q6n:ex [] A F H = F:=by
 funext a
 unfold ex
 rw [if_neg]
 simp
theorem Q0k (S:SR K Y F H δ σ A):Same (ex R A F H) H:=fun a o e=>by
 unfold ex at e
 split at e
 ·exact e
 ·exact S.sub a o e
theorem Q1i (S:SR K Y F H δ σ A):Same F (ex R A F H):=fun a o e=>by
 unfold ex
 rw [if_neg]
 ·exact e
 ·rintro ⟨i,_,h⟩
  rw [S.hid i a h] at e
  cases e
theorem SR.laid (S:SR K Y F H δ σ A) {p:Addr} {o:HO} (hp:H p = none):SR K Y (upd F p o) (upd H p o) δ σ A:=by
 have hF:F p = none:=S.sub.free hp
 have sF:Same F (upd F p o):=fun b x e=>by rw [upd_ne (ne_of_none e hF)]; exact e
 have nA:∀ i a,a ∈ A i → a ≠ p:=fun i a h e=>by subst e; exact S.isSome h hp
 refine ⟨S.len,fun i s e=>(S.slot i s e).mono sF fun a ha=>upd_ne (nA i a ha),S.out,S.dis,fun i a h=>by rw [upd_ne (nA i a h)]; exact S.hid i a h,S.new,fun b x e=>?_,S.fix,S.ioA,fun a x e n=>?_,fun a e n=>?_,S.f0.trans sF,S.lio,S.obK fun i _ _ _ a ha=>upd_ne (nA i a ha),S.vno⟩
 ·by_cases c:b = p
  ·subst c; rw [upd_same] at e ⊢; exact e
  ·rw [upd_ne c] at e ⊢; exact S.sub _ _ e
 ·have q:=S.kp a x e n
  rw [upd_ne (ne_of_none q hp)]
  exact q
 ·by_cases c:a = p
  ·subst c
   cases e2:Y.H0 a with
   | none=>rfl
   | some x =>
    by_cases c2:∃ i,Y.lt i = true ∧ a ∈ Y.A0 i
    ·obtain ⟨i,hi,hA⟩:=c2
     rw [← (S.fix i hi).2] at hA
     exact absurd hp (S.isSome hA)
    ·have:=S.kp a x e2 fun i hi z=>c2 ⟨i,hi,z⟩
     rw [hp] at this
     cases this
  ·rw [upd_ne c] at n
   exact S.nw a e n
theorem Stp.laid (S:SR K Y F H δ σ A) {p:Addr} {o:HO} (hp:H p = none):Stp A M F H (upd F p o) (upd H p o):=by
 have hF:F p = none:=S.sub.free hp
 refine ⟨fun b x e=>by rw [upd_ne (ne_of_none e hF)]; exact e,fun a e n=>?_,fun a x e _=>by rw [upd_ne (ne_of_none e hp)]; exact e⟩
 by_cases c:a = p
 ·subst c; exact hp
 ·rw [upd_ne c] at n
  exact absurd e n
theorem SR.laidO (S:SR K Y F H δ σ A) {p:Addr} {o:HO} (hp:H p = none):SR K Y F (upd H p o) δ σ A:=by
 have nA:∀ i a,a ∈ A i → a ≠ p:=fun i a h e=>by subst e; exact S.isSome h hp
 refine ⟨S.len,fun i s e=>(S.slot i s e).mono (Same.refl _) fun a ha=>upd_ne (nA i a ha),S.out,S.dis,S.hid,S.new,fun b x e=>?_,S.fix,S.ioA,fun a x e n=>?_,S.nw,S.f0,S.lio,S.obK fun i _ _ _ a ha=>upd_ne (nA i a ha),S.vno⟩
 ·have q:=S.sub b x e
  rw [upd_ne (ne_of_none q hp)]
  exact q
 ·have q:=S.kp a x e n
  rw [upd_ne (ne_of_none q hp)]
  exact q
theorem Stp.laidO {p:Addr} {o:HO} (hp:H p = none):Stp A M F H F (upd H p o) :=
 ⟨Same.refl _,fun a e n=>absurd e n,fun a x e _=>by rw [upd_ne (ne_of_none e hp)]; exact e⟩
theorem SR.upd_free (S:SR K Y F H δ σ A) {p:Addr} {o:HO} (hF:F p = none) (nA:∀ j,p ∉ A j) (hY:Y.H0 p = none):SR K Y F (upd H p o) δ σ A:=by
 refine ⟨S.len,fun i s e=>(S.slot i s e).mono (Same.refl _) fun a ha=>upd_ne fun z=>nA i (by rw [← z]; exact ha),S.out,S.dis,S.hid,S.new,fun b x e=>?_,S.fix,S.ioA,fun a x e n=>?_,S.nw,S.f0,S.lio,S.obK fun i _ _ _ a ha=>upd_ne fun z=>nA i (by rw [← z]; exact ha),S.vno⟩
 ·have q:=S.sub b x e
  rw [upd_ne]
  ·exact q
  ·intro z
   subst z
   rw [hF] at e
   cases e
 ·have q:=S.kp a x e n
  rw [upd_ne]
  ·exact q
  ·intro z
   subst z
   rw [hY] at e
   cases e
def Vw (K:PySem.W.Frag) (F H:Hp) (A:Nat → List Addr) (R:List Nat) (v:V) (d:D):Prop:=Rp K F v d ∨ ∃ i ∈ R,∃ p,v = .ref p ∧ A i = [p] ∧ Q3r K F H p d
def Vws (K:PySem.W.Frag) (F H:Hp) (A:Nat → List Addr) (R:List Nat):List V → List D → Prop
 | [],[]=>True
 | v :: vs,d :: ds=>Vw K F H A R v d ∧ Vws K F H A R vs ds
 | _,_=>False
theorem Vw.nil {v:V} {d:D} (h:Vw K F H A [] v d):Rp K F v d:=by
 rcases h with h | ⟨i,hi,_⟩
 ·exact h
 ·simp at hi
theorem Vw.mono {v:V} {d:D} (h:Vw K F H A R v d) (s:∀ i ∈ R,i ∈ R'):Vw K F H A R' v d:=by
 rcases h with h | ⟨i,hi,q⟩
 ·exact .inl h
 ·exact .inr ⟨i,s i hi,q⟩
theorem Vw.step {v:V} {d:D} (h:Vw K F H A R v d) (S:SR K Y F H δ σ A) (st:Stp A M F H F' H') (dj:∀ i ∈ R,i ∉ M):Vw K F' H' A R v d:=by
 rcases h with h | ⟨i,hi,p,e,eA,o⟩
 ·exact .inl (h.mono st.f)
 ·refine .inr ⟨i,hi,p,e,eA,o.mono st.f ?_⟩
  have hp:p ∈ A i:=by rw [eA]; simp
  have na:∀ j ∈ M,p ∉ A j:=fun j hj z=>by
   have:j = i:=S.dis j i p z hp
   subst this
   exact dj _ hi hj
  obtain ⟨xs,q⟩:=o.there.some
  rw [q,st.kp p _ q na]
theorem Vws.nil:∀ {vs:List V} {ds:List D},Vws K F H A [] vs ds → Rps K F vs ds
 | [],[],_=>.nil
 | v :: vs,d :: ds,⟨h,r⟩=>.cons h.nil (Vws.nil r)
 | [],_ :: _,h=>h.elim
 | _ :: _,[],h=>h.elim
theorem Vws.mono (s:∀ i ∈ R,i ∈ R'):∀ {vs:List V} {ds:List D},Vws K F H A R vs ds → Vws K F H A R' vs ds
 | [],[],_=>trivial
 | v :: vs,d :: ds,⟨h,r⟩=>⟨h.mono s,Vws.mono s r⟩
 | [],_ :: _,h=>h.elim
 | _ :: _,[],h=>h.elim
theorem Vw.list {v:V} {ds:List D} (S:SR K Y F H δ σ A) (h:Vw K F H A R v (.list ds)):∃ p xs,v = .ref p ∧ H p = some (.lst xs) ∧ Rps K F xs ds:=by
 rcases h with h | ⟨i,hi,p,e,_,o⟩
 ·cases h with
  | lst h1 r=>exact ⟨_,_,rfl,S.sub _ _ h1,r⟩
 ·obtain ⟨xs,h1,r⟩:=o
  exact ⟨p,xs,e,h1,r⟩
theorem Vw.dict {v:V} {ds:List (D × D)} (S:SR K Y F H δ σ A) (h:Vw K F H A R v (.dict ds)):∃ p o kvs,v = .ref p ∧ H p = some (.frz o (.dK kvs)) ∧ RpK K F kvs ds:=by
 rcases h with h | ⟨i,hi,p,e,_,o⟩
 ·cases h with
  | dic h1 r=>exact ⟨_,_,_,rfl,S.sub _ _ h1,r⟩
 ·obtain ⟨o,xs,h1,r⟩:=o
  exact ⟨p,o,xs,e,h1,r⟩
theorem Vw.rp {v:V} {d:D} (h:Vw K F H A R v d) (hl:∀ ds,d ≠ .list ds) (hd:∀ ds,d ≠ .dict ds):Rp K F v d:=by
 rcases h with h | ⟨i,hi,p,e,_,o⟩
 ·exact h
 ·cases d with
  | list ds=>exact absurd rfl (hl ds)
  | dict ds=>exact absurd rfl (hd ds)
  | _=>exact o.elim
theorem Vw.tup {v:V} {ds:List D} (S:SR K Y F H δ σ A) (h:Vw K F H A R v (.tuple ds)):∃ p xs,v = .ref p ∧ SqT K F p xs ∧ SqT K H p xs ∧ Rps K F xs ds:=by
 cases h.rp (fun _=>by simp) (fun _=>by simp) with
 | tup h1 r=>exact ⟨_,_,rfl,h1,Same.sqt S.sub h1,r⟩
theorem Vw.int {v:V} {i:Int} (h:Vw K F H A R v (.int i)):v = .int i:=by
 cases h.rp (fun _=>by simp) (fun _=>by simp)
 rfl
theorem Vw.str {v:V} {i:Str} (h:Vw K F H A R v (.str i)):v = .str i:=by
 cases h.rp (fun _=>by simp) (fun _=>by simp)
 rfl
theorem Vw.bl {v:V} {i:Bool} (h:Vw K F H A R v (.bool i)):v = .bl i:=by
 cases h.rp (fun _=>by simp) (fun _=>by simp)
 rfl
theorem Vw.ex {v:V} {d:D} (S:SR K Y F H δ σ A) (h:Vw K F H A R v d):Rp K (ex R A F H) v d:=by
 rcases h with h | ⟨i,hi,p,e,eA,o⟩
 ·exact h.mono (Q1i S)
 ·subst e
  have g:Z.ex R A F H p = H p:=if_pos ⟨i,hi,by rw [eA]; simp⟩
  cases d with
  | list ds=>obtain ⟨xs,h1,h2⟩:=o; exact .lst (by rw [g]; exact h1) (h2.mono (Q1i S))
  | dict ds=>obtain ⟨o,xs,h1,h2⟩:=o; exact .dic (by rw [g]; exact h1) (h2.mono (Q1i S))
  | _=>exact o.elim
def EV (X:Cx) (e:Expr) (f:List Sl → Option (D × List Sl)) (R M:List Nat):Prop :=
 ∃ t,PE X e t ∧ ∀ (Y:Fx) (F H:Hp) (δ:List Sl) (σ:L2.St) (A:Nat → List Addr),SR X.K Y F H δ σ A → ∀ (d:D) (δ':List Sl),f δ = some (d,δ') → ∀ Q:VK,
  (∀ v F' H',Stp A M F H F' H' → SR X.K Y F' H' δ' σ A → Vw X.K F' H' A R v d → Q v H') → t σ H Q
def TV (X:Cx) (e:Expr) (f:List Sl → Option (Bool × List Sl)) (M:List Nat):Prop :=
 ∃ t,PT X e t ∧ ∀ (Y:Fx) (F H:Hp) (δ:List Sl) (σ:L2.St) (A:Nat → List Addr),SR X.K Y F H δ σ A → ∀ (b:Bool) (δ':List Sl),f δ = some (b,δ') → ∀ Q:Bool → Hp → Prop,
  (∀ F' H',Stp A M F H F' H' → SR X.K Y F' H' δ' σ A → Q b H') → t σ H Q
def AV (X:Cx) (es:List Expr) (f:List Sl → Option (List D × List Sl)) (R M:List Nat):Prop :=
 ∃ t,PA X es t ∧ ∀ (Y:Fx) (F H:Hp) (δ:List Sl) (σ:L2.St) (A:Nat → List Addr),SR X.K Y F H δ σ A → ∀ (ds:List D) (δ':List Sl),f δ = some (ds,δ') → ∀ Q:List V → Hp → Prop,
  (∀ vs F' H',Stp A M F H F' H' → SR X.K Y F' H' δ' σ A → Vws X.K F' H' A R vs ds → Q vs H') → t σ H Q
def NV (X:Cx) (e:Expr) (f:List Sl → Option (D × List Sl)) (M:List Nat):Prop :=
 ∃ t,PE X e t ∧ ∀ (Y:Fx) (F H:Hp) (δ:List Sl) (σ:L2.St) (A:Nat → List Addr),SR X.K Y F H δ σ A → ∀ (d:D) (δ':List Sl),f δ = some (d,δ') → ∀ Q:VK,
  (∀ p F' H',Stp A M F H F' H' → SR X.K Y F' H' δ' σ A → H p = none → F' p = none → Kc X.K F' H' p d → Q (.ref p) H') → t σ H Q
end
end Z
namespace Z
open PySem PySem.Spec PyProof.Rows L2
section
variable {X:Cx} {pos:Pos}
theorem EV.weak {e:Expr} {f} {R M R' M':List Nat} (h:EV X e f R M) (hR:∀ i ∈ R,i ∈ R') (hM:∀ i ∈ M,i ∈ M'):EV X e f R' M':=by
 obtain ⟨t,p,q⟩:=h
 exact ⟨t,p,fun Y F H δ σ A S d δ' e Q k=>q Y F H δ σ A S d δ' e Q fun v F' H' st S' r=>k v F' H' (st.mono hM) S' (r.mono hR)⟩
def X5 (d:D):List Sl → Option (D × List Sl):=fun δ=>some (d,δ)
def X2 (i:Nat):List Sl → Option (D × List Sl):=fun δ=>match δ[i]? with | some (.fz d)=>some (d,δ) | _=>none
def Qbi (i:Nat):List Sl → Option (D × List Sl):=fun δ=>match δ[i]? with | some (.ow (.list ds))=>some (.list ds,δ) | some (.lk ds)=>some (.dict ds,δ) | _=>none
theorem Q0G {e:Expr} {v:V} {d:D} (h:PE X e (tC v)) (r:∀ G,Rp X.K G v d):EV X e (X5 d) [] []:=by
 refine ⟨_,h,fun Y F H δ σ A S d' δ' e Q k=>?_⟩
 cases e
 exact k _ _ _ Stp.refl S (.inl (r _))
theorem X3 {i j}:EV X (.Constant (.int i) j pos) (X5 (.int i)) [] []:=Q0G pe_int fun _=>.int _
theorem Q12 {i j}:EV X (.Constant (.bool i) j pos) (X5 (.bool i)) [] []:=Q0G pe_bl fun _=>.bl _
theorem Q0x {i j}:EV X (.Constant (.str i) j pos) (X5 (.str i)) [] []:=Q0G pe_str fun _=>.str _
theorem Q7n {i:Nat} {x:Str} (hN:X.N[i]? = some x) (hv:Vis X.env.scope x) (h1:(x == ("__debug__":Str)) = false:=by decide) (h2:(x == ("__classdict__":Str)) = false:=by decide):EV X (.Name x pos) (X2 i) [] []:=by
 refine ⟨_,pe_var hN hv h1 h2,fun Y F H δ σ A S d δ' e Q k=>?_⟩
 unfold X2 at e
 split at e
 ·rename_i d0 hd
  cases e
  obtain ⟨_,v,e2,r⟩:=S.slot i _ hd
  refine ⟨v,?_,k v F H Stp.refl S (.inl r)⟩
  cases e3:σ[i]? with
  | none=>rw [e3] at e2; cases e2
  | some o=>rw [e3] at e2; cases (show o = some v from e2); rfl
 ·cases e
theorem Yr {σ:L2.St} {i:Nat} {v:V} (h:jn σ[i]? = some v):σ[i]? = some (some v):=by
 cases e3:σ[i]? with
 | none=>rw [e3] at h; cases h
 | some o=>rw [e3] at h; cases (show o = some v from h); rfl
theorem Q3u {K:PySem.W.Frag} {F G H:Hp} {p:Addr} {d:D} (o:Q3r K F H p d) (s:Same F G) (g:G p = H p):Rp K G (.ref p) d:=by
 cases d with
 | list ds=>obtain ⟨xs,h1,h2⟩:=o; exact .lst (by rw [g]; exact h1) (h2.mono s)
 | dict ds=>obtain ⟨o,xs,h1,h2⟩:=o; exact .dic (by rw [g]; exact h1) (h2.mono s)
 | _=>exact o.elim
theorem Qah {X:Cx} {e:Expr} {t u:TE} (h:PE X e t) (g:PE X e u):PE X e (fun σ H Q=>t σ H Q ∨ u σ H Q) :=
 ⟨fun pins s σ H Q I hw=>hw.elim (h.run pins s σ H Q I) (g.run pins s σ H Q I)⟩
theorem Q7p {X:Cx} {e:Expr} {t:TE} (h:PE X e t):PE X e (fun σ H Q=>t σ H fun v H1=>∃ d u,v = .ref d ∧ H1 d = some u ∧ Mut (some u) ∧ ∀ od,Q v (upd H1 d (.frz od u))):=by
 refine ⟨fun pins s σ H Q I hw=>?_⟩
 refine thn (h.run pins s σ H _ I hw) fun w s1 ⟨v,H1,I1,r,d,u,ev,hd,mu,q⟩=>?_
 obtain ⟨od,I2⟩:=I1.lock hd mu
 exact ⟨v,_,I2,r,q od⟩
theorem Qb5 {i:Nat} {x:Str} (hN:X.N[i]? = some x) (hv:Vis X.env.scope x) (h1:(x == ("__debug__":Str)) = false:=by decide) (h2:(x == ("__classdict__":Str)) = false:=by decide):EV X (.Name x pos) (Qbi i) [i] []:=by
 refine ⟨_,pe_var hN hv h1 h2,fun Y F H δ σ A S d δ' e Q k=>?_⟩
 unfold Qbi at e
 split at e
 ·rename_i d0 hd
  cases e
  obtain ⟨p,e2,e3,o⟩:=S.slot i _ hd
  exact ⟨_,Yr e2,k _ F H Stp.refl S (.inr ⟨i,by simp,p,rfl,e3,o⟩)⟩
 ·rename_i d0 hd
  cases e
  obtain ⟨p,e2,e3,o⟩:=S.slot i _ hd
  exact ⟨_,Yr e2,k _ F H Stp.refl S (.inr ⟨i,by simp,p,rfl,e3,o⟩)⟩
 ·cases e
def OpS (X:Cx) (r:R2) (g:D → D → Option D):Prop :=
 ∀ (Y:Fx) (F H:Hp) (δ:List Sl) (σ:L2.St) (A:Nat → List Addr) (R:List Nat) (x y:V) (d e z:D),SR X.K Y F H δ σ A → Vw X.K F H A R x d → Vw X.K F H A R y e → g d e = some z →
  ∀ Q:VK,(∀ v F' H',Stp A [] F H F' H' → SR X.K Y F' H' δ σ A → Rp X.K F' v z → Q v H') → r x y H Q
def f2 (g:D → D → Option D) (fa fb:List Sl → Option (D × List Sl)):List Sl → Option (D × List Sl):=fun δ=>(fa δ).bind fun p=>(fb p.2).bind fun q=>(g p.1 q.1).map fun z=>(z,q.2)
section
variable {a b c:Expr} {fa fb fc:List Sl → Option (D × List Sl)} {Ra Rb Rc Ma Mb Mc:List Nat} {g:D → D → Option D} {r:R2}
theorem Q3y {fa fb:List Sl → Option (D × List Sl)} {δ δ':List Sl} {z:D} (h:f2 g fa fb δ = some (z,δ')):∃ d δ1 e,fa δ = some (d,δ1) ∧ fb δ1 = some (e,δ') ∧ g d e = some z:=by
 unfold f2 at h
 cases e1:fa δ with
 | none=>rw [e1] at h; cases h
 | some p =>
  obtain ⟨d,δ1⟩:=p
  rw [e1] at h
  simp only [Q1] at h
  cases e2:fb δ1 with
  | none=>rw [e2] at h; cases h
  | some q =>
   obtain ⟨e,δ2⟩:=q
   rw [e2] at h
   simp only [Q1] at h
   cases e3:g d e with
   | none=>rw [e3] at h; cases h
   | some w =>
    rw [e3] at h
    cases h
    exact ⟨d,δ1,e,rfl,e2,e3⟩
theorem two (ha:EV X a fa Ra Ma) (hb:EV X b fb Rb Mb) (dj:∀ i ∈ Ra,i ∉ Mb:=by decide):∃ ta tb,PE X a ta ∧ PE X b tb ∧
  ∀ (Y:Fx) (F H:Hp) (δ:List Sl) (σ:L2.St) (A:Nat → List Addr),SR X.K Y F H δ σ A → ∀ (z:D) (δ':List Sl),f2 g fa fb δ = some (z,δ') → ∀ Q:V → V → Hp → Prop,
   (∀ x y d e F' H',Stp A (Ma ++ Mb) F H F' H' → SR X.K Y F' H' δ' σ A → Vw X.K F' H' A (Ra ++ Rb) x d → Vw X.K F' H' A (Ra ++ Rb) y e → g d e = some z → Q x y H') → ta σ H fun x H1=>tb σ H1 fun y H2=>Q x y H2:=by
 obtain ⟨ta,pa,qa⟩:=ha
 obtain ⟨tb,pb,qb⟩:=hb
 refine ⟨ta,tb,pa,pb,fun Y F H δ σ A S z δ' e Q k=>?_⟩
 obtain ⟨d,δ1,e',e1,e2,e3⟩:=Q3y e
 refine qa Y F H δ σ A S d δ1 e1 _ fun x F1 H1 st1 S1 r1=>?_
 refine qb Y F1 H1 δ1 σ A S1 e' δ' e2 _ fun y F2 H2 st2 S2 r2=>?_
 refine k x y d e' F2 H2 (st1.trans S1 st2) S2 ?_ (r2.mono fun i hi=>Q8 _ hi) e3
 exact (r1.step S1 st2 dj).mono fun i hi=>Q7 _ hi
theorem Xq {A:Nat → List Addr} {M:List Nat} {F H F1 H1 F2 H2:Hp} {K:PySem.W.Frag} {Y:Fx} {δ:List Sl} {σ:L2.St} (S1:SR K Y F1 H1 δ σ A) (h:Stp A M F H F1 H1) (h':Stp A [] F1 H1 F2 H2):Stp A M F H F2 H2:=by
 have:=h.trans S1 h'
 rwa [Qz] at this
theorem Xl {op:Operator} (ho:OpR X (binaryOp op) r) (hs:OpS X r g) (ha:EV X a fa Ra Ma) (hb:EV X b fb Rb Mb) (dj:∀ i ∈ Ra,i ∉ Mb:=by decide):EV X (.BinOp a op b pos) (f2 g fa fb) [] (Ma ++ Mb):=by
 obtain ⟨ta,tb,pa,pb,q⟩:=two (g:=g) ha hb dj
 refine ⟨_,pe_op ho pa pb,fun Y F H δ σ A S z δ' e Q k=>?_⟩
 refine q Y F H δ σ A S z δ' e _ fun x y d e F1 H1 st S1 r1 r2 hg=>?_
 refine hs Y F1 H1 δ' σ A _ x y d e z S1 r1 r2 hg Q fun v F2 H2 st2 S2 r3=>?_
 exact k v F2 H2 (Xq S1 st st2) S2 (.inl r3)
theorem Q6G {op:CmpOp} (ho:OpR X (compareOp op) r) (hs:OpS X r g) (ha:EV X a fa Ra Ma) (hb:EV X b fb Rb Mb) (dj:∀ i ∈ Ra,i ∉ Mb:=by decide) (hm:behindInMarks op b = false:=by rfl):EV X (.Compare a [op] [b] pos) (f2 g fa fb) [] (Ma ++ Mb):=by
 obtain ⟨ta,tb,pa,pb,q⟩:=two (g:=g) ha hb dj
 refine ⟨_,pe_cmpR ho pa pb hm,fun Y F H δ σ A S z δ' e Q k=>?_⟩
 refine q Y F H δ σ A S z δ' e _ fun x y d e F1 H1 st S1 r1 r2 hg=>?_
 refine hs Y F1 H1 δ' σ A _ x y d e z S1 r1 r2 hg Q fun v F2 H2 st2 S2 r3=>?_
 exact k v F2 H2 (Xq S1 st st2) S2 (.inl r3)
def toB (o:Option (D × List Sl)):Option (Bool × List Sl):=o.bind fun p=>match p.1 with | .bool b=>some (b,p.2) | _=>none
theorem Zk {o:Option (D × List Sl)} {b:Bool} {δ:List Sl} (h:toB o = some (b,δ)):o = some (.bool b,δ):=by
 unfold toB at h
 cases o with
 | none=>cases h
 | some p =>
  obtain ⟨d,δ1⟩:=p
  cases d <;> simp at h
  obtain ⟨rfl,rfl⟩:=h
  rfl
theorem Q0I {K:PySem.W.Frag} {G:Hp} {v:V} {b:Bool} (h:Rp K G v (.bool b)):v = .bl b:=by
 cases h
 rfl
theorem Xv {op:CmpOp} (ho:OpR X (compareOp op) r) (hs:OpS X r g) (ha:EV X a fa Ra Ma) (hb:EV X b fb Rb Mb) (dj:∀ i ∈ Ra,i ∉ Mb:=by decide) (hm:behindInMarks op b = false:=by rfl):TV X (.Compare a [op] [b] pos) (fun δ=>toB (f2 g fa fb δ)) (Ma ++ Mb):=by
 obtain ⟨ta,tb,pa,pb,q⟩:=two (g:=g) ha hb dj
 refine ⟨_,pt_cmpR ho pa pb hm,fun Y F H δ σ A S z δ' e Q k=>?_⟩
 refine q Y F H δ σ A S _ δ' (Zk e) _ fun x y d e F1 H1 st S1 r1 r2 hg=>?_
 refine hs Y F1 H1 δ' σ A _ x y d e _ S1 r1 r2 hg _ fun v F2 H2 st2 S2 r3=>?_
 exact ⟨z,Q0I r3,k F2 H2 (Xq S1 st st2) S2⟩
theorem K1 (h:EV X a fa Ra Ma) (he:∀ whole,isTrue a X.env whole = (do let v ← whole; standAt a.pos; holding [v] (truthy v)):=by intro _; rfl):TV X a (fun δ=>toB (fa δ)) Ma:=by
 obtain ⟨t,p,q⟩:=h
 refine ⟨_,pt_val p he,fun Y F H δ σ A S z δ' e Q k=>?_⟩
 refine q Y F H δ σ A S _ δ' (Zk e) _ fun v F1 H1 st S1 r1=>?_
 exact ⟨z,r1.bl,k F1 H1 st S1⟩
def We (g g':D → D → Option D) (fa fb fc:List Sl → Option (D × List Sl)):List Sl → Option (D × List Sl):=fun δ=>(fa δ).bind fun p=>(fb p.2).bind fun q=>(g p.1 q.1).bind fun z=>match z with
 | .bool true=>(fc q.2).bind fun u=>(g' q.1 u.1).map fun z'=>(z',u.2)
 | .bool false=>some (.bool false,q.2)
 | _=>none
theorem Q4n {op op':CmpOp} {r r':R2} {g g':D → D → Option D} (ho:OpR X (compareOp op) r) (hs:OpS X r g) (ho':OpR X (compareOp op') r') (hs':OpS X r' g') (ha:EV X a fa Ra Ma) (hb:EV X b fb Rb Mb) (hc:EV X c fc Rc Mc)
  (dj:∀ i ∈ Ra,i ∉ Mb:=by decide) (dj2:∀ i ∈ Rb,i ∉ Mc:=by decide) (hm:lastMarks [op,op'] [b,c] = false:=by rfl):EV X (.Compare a [op,op'] [b,c] pos) (We g g' fa fb fc) [] (Ma ++ Mb ++ Mc):=by
 obtain ⟨ta,pa,qa⟩:=ha
 obtain ⟨tb,pb,qb⟩:=hb
 obtain ⟨tc,pc,qc⟩:=hc
 refine ⟨_,pe_chain ho ho' pa pb pc hm,fun Y F H δ σ A S z δ' e Q k=>?_⟩
 unfold We at e
 cases e1:fa δ with
 | none=>rw [e1] at e; cases e
 | some p =>
  obtain ⟨d,δ1⟩:=p
  rw [e1] at e
  simp only [Q1] at e
  cases e2:fb δ1 with
  | none=>rw [e2] at e; cases e
  | some p =>
   obtain ⟨d2,δ2⟩:=p
   rw [e2] at e
   simp only [Q1] at e
   cases e3:g d d2 with
   | none=>rw [e3] at e; cases e
   | some w =>
    rw [e3] at e
    simp only [Q1] at e
    refine qa Y F H δ σ A S d δ1 e1 _ fun x F1 H1 st1 S1 r1=>?_
    refine qb Y F1 H1 δ1 σ A S1 d2 δ2 e2 _ fun y F2 H2 st2 S2 r2=>?_
    have r1':Vw X.K F2 H2 A (Ra ++ Rb) x d:=(r1.step S1 st2 dj).mono fun i hi=>Q7 _ hi
    have r2':Vw X.K F2 H2 A (Ra ++ Rb) y d2:=r2.mono fun i hi=>Q8 _ hi
    refine hs Y F2 H2 δ2 σ A _ x y d d2 w S2 r1' r2' e3 _ fun v F3 H3 st3 S3 r3=>?_
    have st:Stp A (Ma ++ Mb) F H F3 H3:=Xq S2 (st1.trans S1 st2) st3
    cases w with
    | bool k' =>
     refine ⟨k',Q0I r3,?_⟩
     cases k' with
     | false =>
      cases e
      rw [if_neg Jr]
      exact k _ F3 H3 (st.mono fun i hi=>Q7 _ hi) S3 (.inl (.bl _))
     | true =>
      rw [if_pos rfl]
      simp only at e
      cases e4:fc δ2 with
      | none=>rw [e4] at e; cases e
      | some p =>
       obtain ⟨d3,δ3⟩:=p
       rw [e4] at e
       simp only [Q1] at e
       cases e5:g' d2 d3 with
       | none=>rw [e5] at e; cases e
       | some w' =>
        rw [e5] at e
        cases e
        refine qc Y F3 H3 δ2 σ A S3 d3 _ e4 _ fun w1 F4 H4 st4 S4 r4=>?_
        have r2'':Vw X.K F4 H4 A (Rb ++ Rc) y d2:=((r2.step S2 st3 (by simp)).step S3 st4 dj2).mono fun i hi=>Q7 _ hi
        have r4':Vw X.K F4 H4 A (Rb ++ Rc) w1 d3:=r4.mono fun i hi=>Q8 _ hi
        refine hs' Y F4 H4 δ' σ A _ y w1 d2 d3 _ S4 r2'' r4' e5 Q fun v F5 H5 st5 S5 r5=>?_
        exact k v F5 H5 (Xq S4 (st.trans S3 st4) st5) S5 (.inl r5)
    | _=>cases e
theorem Q7q {op op':CmpOp} {r r':R2} {g g':D → D → Option D} (ho:OpR X (compareOp op) r) (hs:OpS X r g) (ho':OpR X (compareOp op') r') (hs':OpS X r' g') (ha:EV X a fa Ra Ma) (hb:EV X b fb Rb Mb) (hc:EV X c fc Rc Mc)
  (dj:∀ i ∈ Ra,i ∉ Mb:=by decide) (dj2:∀ i ∈ Rb,i ∉ Mc:=by decide) (hm:lastMarks [op,op'] [b,c] = false:=by rfl):TV X (.Compare a [op,op'] [b,c] pos) (fun δ=>toB (We g g' fa fb fc δ)) (Ma ++ Mb ++ Mc):=by
 obtain ⟨ta,pa,qa⟩:=ha
 obtain ⟨tb,pb,qb⟩:=hb
 obtain ⟨tc,pc,qc⟩:=hc
 refine ⟨_,pt_chain ho ho' pa pb pc hm,fun Y F H δ σ A S z δ' e Q k=>?_⟩
 have e:=Zk e
 unfold We at e
 cases e1:fa δ with
 | none=>rw [e1] at e; cases e
 | some p =>
  obtain ⟨d,δ1⟩:=p
  rw [e1] at e
  simp only [Q1] at e
  cases e2:fb δ1 with
  | none=>rw [e2] at e; cases e
  | some p =>
   obtain ⟨d2,δ2⟩:=p
   rw [e2] at e
   simp only [Q1] at e
   cases e3:g d d2 with
   | none=>rw [e3] at e; cases e
   | some w =>
    rw [e3] at e
    simp only [Q1] at e
    refine qa Y F H δ σ A S d δ1 e1 _ fun x F1 H1 st1 S1 r1=>?_
    refine qb Y F1 H1 δ1 σ A S1 d2 δ2 e2 _ fun y F2 H2 st2 S2 r2=>?_
    have r1':Vw X.K F2 H2 A (Ra ++ Rb) x d:=(r1.step S1 st2 dj).mono fun i hi=>Q7 _ hi
    have r2':Vw X.K F2 H2 A (Ra ++ Rb) y d2:=r2.mono fun i hi=>Q8 _ hi
    refine hs Y F2 H2 δ2 σ A _ x y d d2 w S2 r1' r2' e3 _ fun v F3 H3 st3 S3 r3=>?_
    have st:Stp A (Ma ++ Mb) F H F3 H3:=Xq S2 (st1.trans S1 st2) st3
    cases w with
    | bool k' =>
     refine ⟨k',Q0I r3,?_⟩
     cases k' with
     | false =>
      cases e
      rw [if_neg Jr]
      exact ⟨false,rfl,k F3 H3 (st.mono fun i hi=>Q7 _ hi) S3⟩
     | true =>
      rw [if_pos rfl]
      simp only at e
      cases e4:fc δ2 with
      | none=>rw [e4] at e; cases e
      | some p =>
       obtain ⟨d3,δ3⟩:=p
       rw [e4] at e
       simp only [Q1] at e
       cases e5:g' d2 d3 with
       | none=>rw [e5] at e; cases e
       | some w' =>
        rw [e5] at e
        cases e
        refine qc Y F3 H3 δ2 σ A S3 d3 _ e4 _ fun w1 F4 H4 st4 S4 r4=>?_
        have r2'':Vw X.K F4 H4 A (Rb ++ Rc) y d2:=((r2.step S2 st3 (by simp)).step S3 st4 dj2).mono fun i hi=>Q7 _ hi
        have r4':Vw X.K F4 H4 A (Rb ++ Rc) w1 d3:=r4.mono fun i hi=>Q8 _ hi
        refine hs' Y F4 H4 δ' σ A _ y w1 d2 d3 _ S4 r2'' r4' e5 _ fun v F5 H5 st5 S5 r5=>?_
        exact ⟨z,Q0I r5,k F5 H5 (Xq S4 (st.trans S3 st4) st5) S5⟩
    | _=>cases e
variable {ga gb:List Sl → Option (Bool × List Sl)} {rest:List Expr}
def Q6W (ga gb:List Sl → Option (Bool × List Sl)):List Sl → Option (Bool × List Sl):=fun δ=>(ga δ).bind fun p=>match p.1 with | true=>gb p.2 | false=>some (false,p.2)
def gOr (ga gb:List Sl → Option (Bool × List Sl)):List Sl → Option (Bool × List Sl):=fun δ=>(ga δ).bind fun p=>match p.1 with | true=>some (true,p.2) | false=>gb p.2
def Q06 (ga:List Sl → Option (Bool × List Sl)):List Sl → Option (Bool × List Sl):=fun δ=>(ga δ).map fun p=>(!p.1,p.2)
def WV (X:Cx) (e:Expr) (f:List Sl → Option (Bool × List Sl)) (M:List Nat):Prop :=
 ∃ t,PW X e t ∧ ∀ (Y:Fx) (F H:Hp) (δ:List Sl) (σ:L2.St) (A:Nat → List Addr),SR X.K Y F H δ σ A → ∀ (b:Bool) (δ':List Sl),f δ = some (b,δ') → ∀ Q:Bool → Hp → Prop,
  (∀ F' H',Stp A M F H F' H' → SR X.K Y F' H' δ' σ A → Q b H') → t σ H Q
theorem WV.tv {e:Expr} {f M} (h:WV X e f M):TV X e f M:=by
 obtain ⟨t,p,q⟩:=h
 exact ⟨t,p.pt,q⟩
theorem Q8a (ha:TV X a ga Ma):WV X (.BoolOp .And [a] pos) ga Ma:=by
 obtain ⟨t,p,q⟩:=ha
 exact ⟨t,pw_and1 p,q⟩
theorem Q29 (ha:TV X a ga Ma):WV X (.BoolOp .Or [a] pos) ga Ma:=by
 obtain ⟨t,p,q⟩:=ha
 exact ⟨t,pw_or1 p,q⟩
theorem Qa0 (ha:TV X a ga Ma) (hb:WV X (.BoolOp .And (b :: rest) pos) gb Mb):WV X (.BoolOp .And (a :: b :: rest) pos) (Q6W ga gb) (Ma ++ Mb):=by
 obtain ⟨ta,pa,qa⟩:=ha
 obtain ⟨tb,pb,qb⟩:=hb
 refine ⟨_,pw_and pa pb,fun Y F H δ σ A S z δ' e Q k=>?_⟩
 unfold Q6W at e
 cases e1:ga δ with
 | none=>rw [e1] at e; cases e
 | some p =>
  obtain ⟨b1,δ1⟩:=p
  rw [e1] at e
  refine qa Y F H δ σ A S b1 δ1 e1 _ fun F1 H1 st1 S1=>?_
  cases b1 with
  | true=>exact iteT (qb Y F1 H1 δ1 σ A S1 z δ' e Q fun F2 H2 st2 S2=>k F2 H2 (st1.trans S1 st2) S2)
  | false =>
   cases e
   exact iteF (k F1 H1 (st1.mono fun i hi=>Q7 _ hi) S1)
theorem Q1W (ha:TV X a ga Ma) (hb:WV X (.BoolOp .Or (b :: rest) pos) gb Mb):WV X (.BoolOp .Or (a :: b :: rest) pos) (gOr ga gb) (Ma ++ Mb):=by
 obtain ⟨ta,pa,qa⟩:=ha
 obtain ⟨tb,pb,qb⟩:=hb
 refine ⟨_,pw_or pa pb,fun Y F H δ σ A S z δ' e Q k=>?_⟩
 unfold gOr at e
 cases e1:ga δ with
 | none=>rw [e1] at e; cases e
 | some p =>
  obtain ⟨b1,δ1⟩:=p
  rw [e1] at e
  refine qa Y F H δ σ A S b1 δ1 e1 _ fun F1 H1 st1 S1=>?_
  cases b1 with
  | false=>exact iteF (qb Y F1 H1 δ1 σ A S1 z δ' e Q fun F2 H2 st2 S2=>k F2 H2 (st1.trans S1 st2) S2)
  | true =>
   cases e
   exact iteT (k F1 H1 (st1.mono fun i hi=>Q7 _ hi) S1)
theorem Ww (ha:TV X a ga Ma):TV X (.UnaryOp .Not a pos) (Q06 ga) Ma:=by
 obtain ⟨t,p,q⟩:=ha
 refine ⟨_,pt_not p,fun Y F H δ σ A S z δ' e Q k=>?_⟩
 unfold Q06 at e
 cases e1:ga δ with
 | none=>rw [e1] at e; cases e
 | some p =>
  obtain ⟨b1,δ1⟩:=p
  rw [e1] at e
  cases e
  exact q Y F H δ σ A S b1 δ1 e1 _ fun F1 H1 st1 S1=>k F1 H1 st1 S1
def Q5O (fa fb:List Sl → Option (D × List Sl)):List Sl → Option (D × List Sl):=fun δ=>(toB (fa δ)).bind fun p=>match p.1 with | true=>fb p.2 | false=>some (.bool false,p.2)
def Q74 (fa:List Sl → Option (D × List Sl)):List Sl → Option (D × List Sl):=fun δ=>(toB (fa δ)).map fun p=>(.bool (!p.1),p.2)
theorem Q58 (ha:EV X a fa Ra Ma):EV X (.BoolOp .And [a] pos) fa Ra Ma:=by
 obtain ⟨t,p,q⟩:=ha
 exact ⟨t,pe_one p,q⟩
theorem Q7D (ha:EV X a fa Ra Ma) (hb:EV X (.BoolOp .And (b :: rest) pos) fb Rb Mb):EV X (.BoolOp .And (a :: b :: rest) pos) (Q5O fa fb) Rb (Ma ++ Mb):=by
 obtain ⟨ta,pa,qa⟩:=ha
 obtain ⟨tb,pb,qb⟩:=hb
 refine ⟨_,pe_and pa pb,fun Y F H δ σ A S z δ' e Q k=>?_⟩
 unfold Q5O at e
 cases e1:toB (fa δ) with
 | none=>rw [e1] at e; cases e
 | some p =>
  obtain ⟨b1,δ1⟩:=p
  rw [e1] at e
  refine qa Y F H δ σ A S _ δ1 (Zk e1) _ fun v F1 H1 st1 S1 r1=>?_
  refine ⟨b1,r1.bl,?_⟩
  cases b1 with
  | true=>exact iteT (qb Y F1 H1 δ1 σ A S1 z δ' e Q fun v F2 H2 st2 S2 r2=>k v F2 H2 (st1.trans S1 st2) S2 r2)
  | false =>
   cases e
   exact iteF (k _ F1 H1 (st1.mono fun i hi=>Q7 _ hi) S1 (.inl (.bl _)))
theorem Qac (ha:EV X a fa Ra Ma):EV X (.UnaryOp .Not a pos) (Q74 fa) [] Ma:=by
 obtain ⟨t,p,q⟩:=ha
 refine ⟨_,pe_not p,fun Y F H δ σ A S z δ' e Q k=>?_⟩
 unfold Q74 at e
 cases e1:toB (fa δ) with
 | none=>rw [e1] at e; cases e
 | some p =>
  obtain ⟨b1,δ1⟩:=p
  rw [e1] at e
  cases e
  exact q Y F H δ σ A S _ δ1 (Zk e1) _ fun v F1 H1 st1 S1 r1=>⟨b1,r1.bl,k _ F1 H1 st1 S1 (.inl (.bl _))⟩
def Q5H (gc:List Sl → Option (Bool × List Sl)) (fa fb:List Sl → Option (D × List Sl)):List Sl → Option (D × List Sl):=fun δ=>(gc δ).bind fun p=>match p.1 with | true=>fa p.2 | false=>fb p.2
theorem Qb4 {gc} (hc:TV X c gc Mc) (ha:EV X a fa Ra Ma) (hb:EV X b fb Rb Mb):EV X (.IfExp c a b pos) (Q5H gc fa fb) (Ra ++ Rb) (Mc ++ (Ma ++ Mb)):=by
 obtain ⟨tc,pc,qc⟩:=hc
 obtain ⟨ta,pa,qa⟩:=ha
 obtain ⟨tb,pb,qb⟩:=hb
 refine ⟨_,pe_ifExp pc pa pb,fun Y F H δ σ A S z δ' e Q k=>?_⟩
 unfold Q5H at e
 cases e1:gc δ with
 | none=>rw [e1] at e; cases e
 | some p =>
  obtain ⟨b1,δ1⟩:=p
  rw [e1] at e
  refine qc Y F H δ σ A S _ δ1 e1 _ fun F1 H1 st1 S1=>?_
  cases b1 with
  | true=>exact iteT (qa Y F1 H1 δ1 σ A S1 z δ' e Q fun v F2 H2 st2 S2 r2=>k v F2 H2 ((st1.trans S1 st2).mono fun i hi=>by
    rcases Qj.mp hi with h | h
    ·exact Q7 _ h
    ·exact Q8 _ (Q7 _ h)) S2 (r2.mono fun i hi=>Q7 _ hi))
  | false=>exact iteF (qb Y F1 H1 δ1 σ A S1 z δ' e Q fun v F2 H2 st2 S2 r2=>k v F2 H2 ((st1.trans S1 st2).mono fun i hi=>by
    rcases Qj.mp hi with h | h
    ·exact Q7 _ h
    ·exact Q8 _ (Q8 _ h)) S2 (r2.mono fun i hi=>Q8 _ hi))
theorem SR.give {K:PySem.W.Frag} {Y:Fx} {F F1 H H1:Hp} {δ δ':List Sl} {σ:L2.St} {A:Nat → List Addr} {M:List Nat} {p:Addr} {u:HO} (S:SR K Y F H δ σ A) (S1:SR K Y F1 H1 δ' σ A) (st1:Stp A M F H F1 H1) (n:H p = none) (f:F1 p = none) (hu:H1 p = some u) :
  Stp A M F H (upd F1 p u) H1 ∧ SR K Y (upd F1 p u) H1 δ' σ A ∧ Same F1 (upd F1 p u):=by
 have nA:∀ i,p ∉ A i:=fun i hi=>S.isSome hi n
 have sF:Same F1 (upd F1 p u):=fun b x e=>by rw [upd_ne (ne_of_none e f)]; exact e
 refine ⟨⟨st1.f.trans sF,fun a e1 e2=>?_,st1.kp⟩,⟨S1.len,fun i s e=>(S1.slot i s e).mono sF fun _ _=>rfl,S1.out,S1.dis,fun i a h=>?_,S1.new,fun b x e=>?_,S1.fix,S1.ioA,S1.kp,fun a e1 e2=>?_,S1.f0.trans sF,S1.lio,S1.ob,S1.vno⟩,sF⟩
 ·by_cases c:a = p
  ·subst c; exact n
  ·rw [upd_ne c] at e2; exact st1.nw a e1 e2
 ·rw [upd_ne (fun c=>by subst c; exact nA i h)]; exact S1.hid i a h
 ·by_cases c:b = p
  ·subst c; rw [upd_same] at e; cases e; exact hu
  ·rw [upd_ne c] at e; exact S1.sub _ _ e
 ·by_cases c:a = p
  ·subst c
   cases e3:Y.H0 a with
   | none=>rfl
   | some x =>
    by_cases c2:∃ i,Y.lt i = true ∧ a ∈ Y.A0 i
    ·obtain ⟨i,hi,hA⟩:=c2
     rw [← (S.fix i hi).2] at hA
     exact absurd hA (nA i)
    ·have:=S.kp a x e3 fun i hi z=>c2 ⟨i,hi,z⟩
     rw [n] at this
     cases this
  ·rw [upd_ne c] at e2; exact S1.nw a e1 e2
theorem SR.fresh1 {K:PySem.W.Frag} {Y:Fx} {F H:Hp} {δ:List Sl} {σ:L2.St} {A:Nat → List Addr} (S:SR K Y F H δ σ A) {p:Addr} (n:H p = none):Y.H0 p = none:=by
 cases e3:Y.H0 p with
 | none=>rfl
 | some x =>
  by_cases c2:∃ i,Y.lt i = true ∧ p ∈ Y.A0 i
  ·obtain ⟨i,hi,hA⟩:=c2
   rw [← (S.fix i hi).2] at hA
   exact absurd n (S.isSome hA)
  ·have:=S.kp p x e3 fun i hi z=>c2 ⟨i,hi,z⟩
   rw [n] at this
   cases this
theorem Q6F {K:PySem.W.Frag} {Y:Fx} {F F1 H H1:Hp} {δ δ':List Sl} {σ:L2.St} {A:Nat → List Addr} {M:List Nat} {p:Addr} {ds:List (D × D)} (S:SR K Y F H δ σ A) (S1:SR K Y F1 H1 δ' σ A) (st1:Stp A M F H F1 H1) (n:H p = none) (f:F1 p = none) (o:Kc K F1 H1 p (.dict ds)) :
  ∃ u,H1 p = some u ∧ Mut (some u) ∧ ∀ od,Stp A M F H F1 (upd H1 p (.frz od u)) ∧ SR K Y F1 (upd H1 p (.frz od u)) δ' σ A ∧ Q3r K F1 (upd H1 p (.frz od u)) p (.dict ds):=by
 obtain ⟨kvs,h1,h2⟩:=o
 have nA:∀ i,p ∉ A i:=fun i hi=>S.isSome hi n
 refine ⟨_,h1,trivial,fun od=>⟨⟨st1.f,st1.nw,fun a x e hx=>?_⟩,S1.upd_free f nA (S.fresh1 n),od,kvs,upd_same,h2⟩⟩
 rw [upd_ne (ne_of_none e n)]
 exact st1.kp a x e hx
theorem NV.ev (h:NV X a fa Ma):EV X a fa [] Ma:=by
 obtain ⟨t,p,q⟩:=h
 refine ⟨_,Qah p (Q7p p),fun Y F H δ σ A S z δ' e Q k=>?_⟩
 cases z with
 | dict ds =>
  refine .inr (q Y F H δ σ A S _ δ' e _ fun p F1 H1 st1 S1 n f o=>?_)
  obtain ⟨u,hu,mu,w⟩:=Q6F S S1 st1 n f o
  refine ⟨p,u,rfl,hu,mu,fun od=>?_⟩
  obtain ⟨st2,S2,o2⟩:=w od
  obtain ⟨st3,S3,sF⟩:=SR.give S S2 st2 n f upd_same
  exact k _ _ _ st3 S3 (.inl (Q3u o2 sF (by rw [upd_same,upd_same])))
 | list ds =>
  refine .inl (q Y F H δ σ A S _ δ' e _ fun p F1 H1 st1 S1 n f o=>?_)
  obtain ⟨xs,hu,o2⟩:=id o
  obtain ⟨st3,S3,sF⟩:=SR.give S S1 st1 n f hu
  exact k _ _ _ st3 S3 (.inl (Q3u (d:=.list ds) ⟨xs,hu,o2⟩ sF (by rw [upd_same,hu])))
 | _=>exact .inl (q Y F H δ σ A S _ δ' e _ fun p F1 H1 st1 S1 n f o=>o.elim)
end
def Y3:List Sl → Option (List D × List Sl):=fun δ=>some ([],δ)
def X7 (fa:List Sl → Option (D × List Sl)) (fr:List Sl → Option (List D × List Sl)):List Sl → Option (List D × List Sl):=fun δ=>(fa δ).bind fun p=>(fr p.2).map fun q=>(p.1 :: q.1,q.2)
theorem Xk:AV X [] Y3 [] []:=by
 refine ⟨_,pa_nil,fun Y F H δ σ A S d' δ' e Q k=>?_⟩
 cases e
 exact k _ _ _ Stp.refl S trivial
theorem Q2v {fa fr} {δ δ':List Sl} {ds:List D} (h:X7 fa fr δ = some (ds,δ')):∃ d δ1 r,fa δ = some (d,δ1) ∧ fr δ1 = some (r,δ') ∧ ds = d :: r:=by
 unfold X7 at h
 cases e1:fa δ with
 | none=>rw [e1] at h; cases h
 | some p =>
  obtain ⟨d,δ1⟩:=p
  rw [e1] at h
  simp only [Q1] at h
  cases e2:fr δ1 with
  | none=>rw [e2] at h; cases h
  | some q =>
   obtain ⟨e,δ2⟩:=q
   rw [e2] at h
   cases h
   exact ⟨d,δ1,e,rfl,e2,rfl⟩
theorem X4 {a:Expr} {es:List Expr} {fa fr} {Ra Rr Ma Mr:List Nat} (ha:EV X a fa Ra Ma) (hr:AV X es fr Rr Mr) (dj:∀ i ∈ Ra,i ∉ Mr:=by decide) (hs:starEach (a :: es) X.env = (false,eval a X.env) :: starEach es X.env:=by rfl):AV X (a :: es) (X7 fa fr) (Ra ++ Rr) (Ma ++ Mr):=by
 obtain ⟨ta,pa,qa⟩:=ha
 obtain ⟨tb,pb,qb⟩:=hr
 refine ⟨_,pa_cons pa pb hs,fun Y F H δ σ A S ds δ' e Q k=>?_⟩
 obtain ⟨d,δ1,r,e1,e2,rfl⟩:=Q2v e
 refine qa Y F H δ σ A S d δ1 e1 _ fun x F1 H1 st1 S1 r1=>?_
 refine qb Y F1 H1 δ1 σ A S1 r δ' e2 _ fun y F2 H2 st2 S2 r2=>?_
 exact k _ F2 H2 (st1.trans S1 st2) S2 ⟨(r1.step S1 st2 dj).mono fun i hi=>Q7 _ hi,r2.mono fun i hi=>Q8 _ hi⟩
def Q2J (f:List Sl → Option (List D × List Sl)):List Sl → Option (D × List Sl):=fun δ=>(f δ).bind fun p=>if p.1.length ≤ sizeLine then some (.tuple p.1,p.2) else none
def Q1q (f:List Sl → Option (List D × List Sl)):List Sl → Option (D × List Sl):=fun δ=>(f δ).bind fun p=>if p.1.length ≤ sizeLine then some (.list p.1,p.2) else none
theorem Q3J {es:List Expr} {f} {M:List Nat} {x1} (h:AV X es f [] M):EV X (.Tuple es x1 pos) (Q2J f) [] M:=by
 obtain ⟨t,p,q⟩:=h
 refine ⟨_,pe_tup p,fun Y F H δ σ A S d δ' e Q k=>?_⟩
 unfold Q2J at e
 cases e1:f δ with
 | none=>rw [e1] at e; cases e
 | some p =>
  obtain ⟨ds,δ1⟩:=p
  rw [e1] at e
  simp only [Q1] at e
  split at e
  ·rename_i hz
   cases e
   refine q Y F H δ σ A S ds δ' e1 _ fun vs F1 H1 st S1 r=>?_
   have r:=r.nil
   refine ⟨by rw [r.length]; exact hz,fun p hp=>?_⟩
   exact k _ (upd F1 p (.tup vs)) (upd H1 p (.tup vs)) (Xq S1 st (Stp.laid S1 hp)) (S1.laid hp) (.inl (.tup (.inl (.inl upd_same)) (r.mono (Stp.laid (M:=[]) S1 hp).f)))
  ·cases e
theorem Q0z {es:List Expr} {f} {M:List Nat} (h:AV X es f [] M):NV X (.List es pos) (Q1q f) M:=by
 obtain ⟨t,p,q⟩:=h
 refine ⟨_,pe_lst p,fun Y F H δ σ A S d δ' e Q k=>?_⟩
 unfold Q1q at e
 cases e1:f δ with
 | none=>rw [e1] at e; cases e
 | some p =>
  obtain ⟨ds,δ1⟩:=p
  rw [e1] at e
  simp only [Q1] at e
  split at e
  ·rename_i hz
   cases e
   refine q Y F H δ σ A S ds δ' e1 _ fun vs F1 H1 st S1 r=>?_
   have r:=r.nil
   refine ⟨by rw [r.length]; exact hz,fun p hp=>?_⟩
   refine k p F1 (upd H1 p (.lst vs)) (Xq S1 st (Stp.laidO hp)) (S1.laidO hp) ?_ (S1.sub.free hp) ⟨vs,upd_same,r⟩
   cases e5:H p with
   | none=>rfl
   | some o =>
    by_cases c:∃ i,p ∈ A i
    ·obtain ⟨i,hi⟩:=c
     exact absurd hp (S1.isSome hi)
    ·have:=st.kp p o e5 fun i _ hi=>c ⟨i,hi⟩
     rw [hp] at this
     cases this
  ·cases e
end
end Z
namespace Z
open PySem PySem.Spec PyProof.Rows L2
section
variable {X:Cx} {pins:List (Addr × Obj)} {σ:L2.St} {H G:Hp} {s:Shared}
theorem Q2o {h:Heap} {k:Key} {u:Value} (e:keyIs k u = true):Reads h u (Q2N k) []:=by
 rcases keyIs_shape e with ⟨i,t,rfl,rfl⟩ | ⟨x,t,rfl,rfl⟩
 ·exact .int i t
 ·exact .str x t
mutual
theorem Rp.reads (I:Inv X pins σ H s) (g:Same G H):∀ (d:D) (v:V) (u:Value),Rp X.K G v d → RelV v u → ∃ as,Reads s.heap u d as
 | .none,_,_,h,r=>by
  cases h
  cases r
  exact ⟨_,Reads.none⟩
 | .bool b,_,_,h,r=>by
  cases h
  cases r
  exact ⟨_,Reads.bool b⟩
 | .int i,_,_,h,r=>by
  cases h
  obtain ⟨t,rfl⟩:=r
  exact ⟨_,Reads.int i t⟩
 | .str x,_,_,h,r=>by
  cases h
  obtain ⟨t,rfl⟩:=r
  exact ⟨_,Reads.str x t⟩
 | .list ds,_,_,h,r=>by
  cases h with
  | lst hs ha =>
   rename_i p xs
   cases r
   obtain ⟨its,rv,⟨o,n,ho,hc,_,hd⟩,_⟩:=I.list (SqL.of (g _ _ hs))
   obtain ⟨as,hr⟩:=Rp.readsAll I g ds _ its ha rv
   exact ⟨_,Reads.list ho hc hd hr⟩
 | .tuple ds,_,_,h,r=>by
  cases h with
  | tup hs ha =>
   cases r
   obtain ⟨its,rv,⟨o,ho,hc,n,hd⟩,_⟩:=I.tuple (Same.sqt g hs)
   obtain ⟨as,hr⟩:=Rp.readsAll I g ds _ its ha rv
   exact ⟨_,Reads.tuple ho hc hd hr⟩
 | .dict ds,_,_,h,r=>by
  cases h with
  | dic hs ha =>
   cases r
   obtain ⟨_,_,hsm,vs,rel,o,es,ep,ho,hx,hdat,_,hp,_⟩:=I.hok _ _ (g _ _ hs)
   obtain ⟨bs,h1,h2⟩:=Rp.readsKv I g ds _ vs es.toList ha rel hp
   exact ⟨_,Reads.dict ho hx.1 hdat h1 h2⟩
theorem Rp.readsAll (I:Inv X pins σ H s) (g:Same G H):∀ (ds:List D) (vs:List V) (us:List Value),Rps X.K G vs ds → Vals vs us → ∃ as,ReadsAll s.heap us ds as
 | [],_,_,h,r=>by
  cases h
  cases r
  exact ⟨_,ReadsAll.nil⟩
 | d :: ds,_,_,h,r=>by
  cases h with
  | cons h1 h2 =>
   cases r with
   | cons r1 r2 =>
    obtain ⟨as,q1⟩:=Rp.reads I g d _ _ h1 r1
    obtain ⟨bs,q2⟩:=Rp.readsAll I g ds _ _ h2 r2
    exact ⟨_,ReadsAll.cons q1 q2⟩
theorem Rp.readsKv (I:Inv X pins σ H s) (g:Same G H):∀ (ds:List (D × D)) (kvs:List (Key × V)) (vs:List (Key × Value)) (es:List DictEntry),RpK X.K G kvs ds → KV kvs vs → Pairs (mixKind X.prog X.w) es vs →
  ∃ bs,ReadsAll s.heap (es.map (·.key)) (ds.map (·.1)) [] ∧ ReadsAll s.heap (es.map (·.val)) (ds.map (·.2)) bs
 | [],_,_,_,h,r,p=>by
  cases h
  cases r
  cases p
  exact ⟨_,ReadsAll.nil,ReadsAll.nil⟩
 | (dk,dv) :: ds,_,_,_,h,r,p=>by
  cases h with
  | cons h1 h2 =>
   cases r with
   | cons r1 r2 =>
    rename_i q vs'
    obtain ⟨k',u⟩:=q
    obtain ⟨e1,r1⟩:=r1
    simp only at e1
    subst e1
    cases p with
    | cons p1 p2 p3 =>
     obtain ⟨as,q1⟩:=Rp.reads I g dv _ _ h1 r1
     obtain ⟨bs,q2,q3⟩:=Rp.readsKv I g ds _ _ _ h2 r2 p3
     refine ⟨as ++ bs,?_,?_⟩
     ·exact ReadsAll.cons (as:=[]) (bs:=[]) (Q2o p1) q2
     ·rw [Qq,p2]
      exact ReadsAll.cons q1 q3
end
end
section
variable {X:Cx}
def Q7U:D → D → Option D
 | .int a,.int b=>some (.int (a + b))
 | .str a,.str b=>if a.length + b.length ≤ sizeLine then some (.str (a ++ b)) else none
 | .tuple a,.tuple b=>if a.length + b.length ≤ sizeLine then some (.tuple (a ++ b)) else none
 | _,_=>none
def Q9V:D → D → Option D
 | .list a,.list b=>if a.length + b.length ≤ sizeLine then some (.list (a ++ b)) else none
 | _,_=>none
def QaQ:D → D → Option D
 | .int a,.int b=>some (.int (a - b))
 | _,_=>none
def Q18 (i:Int):Bool:=decide (-(2 ^ 64) < i) && decide (i < 2 ^ 64)
def Q3Y:D → D → Option D
 | .int a,.int b=>if Q18 a || Q18 b then some (.int (a * b)) else none
 | .tuple xs,.int k=>if (!xs.isEmpty) && decide (-1000 ≤ k) && decide (k ≤ 1000) && decide (xs.length ≤ 1000) then some (.tuple (Qy k.toNat xs).flatten) else none
 | _,_=>none
def Qam:D → D → Option D
 | .list xs,.int k=>if decide (0 ≤ k) && decide (k < 2 ^ 62) && decide (xs.length * k.toNat ≤ sizeLine) then some (.list (Qy k.toNat xs).flatten) else none
 | _,_=>none
def Z7:D → D → Option D
 | .int a,.int b=>if decide (0 < b) && decide (b < 1073741824) then some (.int (a / b)) else none
 | _,_=>none
def W5:D → D → Option D
 | .int a,.int b=>if 0 < b then some (.int (a % b)) else none
 | _,_=>none
def Q62:D → D → Option D
 | .int a,.int b=>if decide (0 ≤ b) && decide (b ≤ 1000000) && decide (a.natAbs < 2 ^ 64) then some (.int (a ^ b.toNat)) else none
 | _,_=>none
def Q7C (K:PySem.W.Frag):R2:=fun x y H Q=>rI0 (fun i j=>.int (i + j)) x y H Q ∨ (∃ i j,x = .str i ∧ y = .str j ∧ i.length + j.length ≤ sizeLine ∧ Q (.str (i ++ j)) H) ∨ rCatA K x y H Q
theorem Q8z:OpR X (binaryOp .Add) (Q7C X.K):=op_add.or (op_add_str.or op_catA)
theorem Qaf:OpS X (Q7C X.K) Q7U:=by
 intro Y F H δ σ A R x y d e z S rx ry hg Q k
 cases d with
 | int i =>
  cases e with
  | int j =>
   cases hg
   rw [rx.int,ry.int]
   exact .inl ⟨i,j,rfl,rfl,k _ F H Stp.refl S (.int _)⟩
  | _=>cases hg
 | str i =>
  cases e with
  | str j =>
   simp only [Q7U] at hg
   split at hg
   ·rename_i hz
    cases hg
    rw [rx.str,ry.str]
    exact .inr (.inl ⟨i,j,rfl,rfl,hz,k _ F H Stp.refl S (.str _)⟩)
   ·cases hg
  | _=>cases hg
 | tuple i =>
  cases e with
  | tuple j =>
   simp only [Q7U] at hg
   split at hg
   ·rename_i hz
    cases hg
    obtain ⟨a,xs,rfl,h0,h1,r1⟩:=rx.tup S
    obtain ⟨b,ys,rfl,h3,h2,r2⟩:=ry.tup S
    refine .inr (.inr ⟨a,b,xs,ys,rfl,rfl,h1,h2,by rw [r1.length,r2.length]; exact hz,fun e0=>?_,fun n1 e0=>?_,fun n1 n2 p hp=>?_⟩)
    ·subst e0
     cases r1
     exact k _ F H Stp.refl S (.tup h3 r2)
    ·subst e0
     cases r2
     rw [Qz] at k
     exact k _ F H Stp.refl S (.tup h0 r1)
    ·exact k _ _ _ (Stp.laid S hp) (S.laid hp) (.tup (.inl (.inl upd_same)) ((r1.append r2).mono (Stp.laid (M:=[]) S hp).f))
   ·cases hg
  | _=>cases hg
 | _=>cases hg
theorem Rps.rep {K:PySem.W.Frag} {G:Hp} {xs:List V} {ds:List D} (h:Rps K G xs ds):∀ k:Nat,Rps K G (Qy k xs).flatten (Qy k ds).flatten
 | 0=>.nil
 | k + 1=>by
  rw [List.replicate_succ,List.flatten_cons,List.replicate_succ,List.flatten_cons]
  exact h.append (h.rep k)
theorem Q9U:OpS X (rI0 fun i j=>.int (i - j)) QaQ:=by
 intro Y F H δ σ A R x y d e z S rx ry hg Q k
 cases d with
 | int i =>
  cases e with
  | int j =>
   cases hg
   rw [rx.int,ry.int]
   exact ⟨i,j,rfl,rfl,k _ F H Stp.refl S (.int _)⟩
  | _=>cases hg
 | _=>cases hg
theorem Q3q:OpS X (rI CDiv fun i j=>.int (i / j)) Z7:=by
 intro Y F H δ σ A R x y d e z S rx ry hg Q k
 cases d with
 | int i =>
  cases e with
  | int j =>
   simp only [Z7] at hg
   split at hg
   ·rename_i hz
    cases hg
    simp only [Q4,decide_eq_true_eq] at hz
    rw [rx.int,ry.int]
    exact ⟨i,j,rfl,rfl,hz,k _ F H Stp.refl S (.int _)⟩
   ·cases hg
  | _=>cases hg
 | _=>cases hg
theorem Q0A:OpS X (rI (fun _ j=>0 < j) fun i j=>.int (i % j)) W5:=by
 intro Y F H δ σ A R x y d e z S rx ry hg Q k
 cases d with
 | int i =>
  cases e with
  | int j =>
   simp only [W5] at hg
   split at hg
   ·rename_i hz
    cases hg
    rw [rx.int,ry.int]
    exact ⟨i,j,rfl,rfl,hz,k _ F H Stp.refl S (.int _)⟩
   ·cases hg
  | _=>cases hg
 | _=>cases hg
theorem Qb7:OpS X (rI CPow fun i j=>.int (i ^ j.toNat)) Q62:=by
 intro Y F H δ σ A R x y d e z S rx ry hg Q k
 cases d with
 | int i =>
  cases e with
  | int j =>
   simp only [Q62] at hg
   split at hg
   ·rename_i hz
    cases hg
    simp only [Q4,decide_eq_true_eq] at hz
    rw [rx.int,ry.int]
    exact ⟨i,j,rfl,rfl,⟨hz.1.1,hz.1.2,hz.2⟩,k _ F H Stp.refl S (.int _)⟩
   ·cases hg
  | _=>cases hg
 | _=>cases hg
end
end Z
namespace Z
open PySem PySem.Spec PyProof.Rows L2
theorem QbB (l:Addr) (items:Array Value) (n:Nat) (sl:Array (Option Value)) (dd:Option Addr) (u:Tok) :
  Meets (Builtin.«tuple.__mul__» ⟨[.ref l,.int 1 u],[]⟩) (fun _ R s=>s.heap.get? l = some { cls:=.type "tuple",dict:=dd,data:=.seq items n,slots:=sl } ∧
   R (.ok (.ret (Value.ref l))) s) :=
 .of_wp fun prog w A R s h=>by
  obtain ⟨hp,g,d,tk,os⟩:=s
  obtain ⟨hl,h⟩:=h
  have f1:=AutoSeq1.idx_int
  have c0:(decide ((1:Int) < -(2 ^ 63)) || decide ((1:Int) ≥ 2 ^ 63)) = false:=by decide
  have c1:(items.isEmpty || ((1:Int) == 1)) = true:=by simp
  wp_walk using wpAny_loadPart' hl
  repeat (first
   | (refine wpAny_ite_false (decide_eq_false (by rw [c0]; exact Jr)) ?_; wp_walk using wpAny_loadPart' hl)
   | (refine wpAny_ite_true (decide_eq_true c1) ?_; wp_walk using wpAny_loadPart' hl))
  exact ⟨_,rfl,h⟩
theorem QbG (l:Addr) (items:Array Value) (n:Nat) (sl:Array (Option Value)) (dd:Option Addr) (x:Int) (u:Tok) (hx:x ≤ 0) (hx2:-(2 ^ 63) ≤ x) (hne:items.isEmpty = false) :
  Meets (Builtin.«tuple.__mul__» ⟨[.ref l,.int x u],[]⟩) (fun _ R s=>s.heap.get? l = some { cls:=.type "tuple",dict:=dd,data:=.seq items n,slots:=sl } ∧
   R (.ok (.ret (Value.ref s.heap.objs.size))) { s with heap:=s.heap.push { cls:=Value.type "tuple",data:=Data.seq #[] },toks:=s.toks }) :=
 .of_wp fun prog w A R s h=>by
  obtain ⟨hp,g,d,tk,os⟩:=s
  obtain ⟨hl,h⟩:=h
  have f1:=AutoSeq1.idx_int
  have c0:(decide (x < -(2 ^ 63)) || decide (x ≥ 2 ^ 63)) = false:=by
   rw [decide_eq_false (by omega),decide_eq_false (by omega)] <;> rfl
  have c1:(items.isEmpty || x == 1) = false:=by
   rw [hne,Bool.false_or]
   exact beq_eq_false_iff_ne.mpr (by omega)
  have c2:(decide (x ≤ 0) || items.isEmpty) = true:=by
   rw [decide_eq_true hx]
   rfl
  wp_walk using wpAny_loadPart' hl
  repeat (first
   | (refine wpAny_ite_false (decide_eq_false (by rw [c0]; exact Jr)) ?_; wp_walk using wpAny_loadPart' hl)
   | (refine wpAny_ite_false (decide_eq_false (by rw [c1]; exact Jr)) ?_; wp_walk using wpAny_loadPart' hl)
   | (refine wpAny_ite_true (decide_eq_true c2) ?_; wp_walk using wpAny_loadPart' hl))
  exact ⟨_,rfl,h⟩
section
variable {X:Cx}
def Q9s (K:PySem.W.Frag):R2:=fun x y H Q=>∃ l k xs,x = .ref l ∧ y = .int k ∧ SqT K H l xs ∧ xs ≠ [] ∧ -1000 ≤ k ∧ k ≤ 1000 ∧ xs.length ≤ 1000 ∧ (k = 1 → Q (.ref l) H) ∧ (k ≠ 1 → ∀ p,H p = none → Q (.ref p) (upd H p (.tup (Qy k.toNat xs).flatten)))
theorem Q8S:OpR X (binaryOp .Mult) (Q9s X.K):=by
 intro pins s σ H x y v u Q I rx ry h
 obtain ⟨l,k,xs,rfl,rfl,hT,hne,h1,h2,hz,q1,q2⟩:=h
 by_cases hk:2 ≤ k
 ·exact op_repT pins s σ H _ _ v u Q I rx ry ⟨l,k,xs,rfl,rfl,hT,hne,hk,h2,hz,q2 (by omega)⟩
 ·cases rx
  obtain ⟨t,rfl⟩:=ry
  obtain ⟨its,r,⟨⟨cls,dd,data,sl⟩,ho,hc,n,hd⟩,hs⟩:=I.tuple hT
  simp only at hc hd
  subst hc hd
  have hi:its.toArray.isEmpty = false:=by
   cases its with
   | nil =>
    cases r
    exact absurd rfl hne
   | cons a b=>rfl
  by_cases hk1:k = 1
  ·subst hk1
   refine wpAny_binaryOp_repeat_ref (T := "tuple") (U := "int") (by decide) ⟨_,ho,rfl⟩ (fun s'=>typeIs_int s' 1 t) noFill_tuple_mul F.fills_int_mul F.slot_int_rmul repeat_tuple F.slot_int_index.lookup
    (call_meets F.slot_int_rmul (typeIs_int s 1 t) F.entry_int_rmul (F.args_int_rmul_2 _ _) (int_rmul_tuple 1 t l its.toArray n dd sl)
     ⟨ho,rfl,⟨_,ho,rfl⟩,call_meets F.slot_tuple_mul ⟨_,ho,rfl⟩ F.entry_tuple_mul (F.args_tuple_mul_2 _ _) (QbB l its.toArray n sl dd t) ⟨ho,?_⟩⟩)
   exact ⟨.ref l,H,I,rfl,q1 rfl⟩
  ·refine wpAny_binaryOp_repeat_ref (T := "tuple") (U := "int") (by decide) ⟨_,ho,rfl⟩ (fun s'=>typeIs_int s' k t) noFill_tuple_mul F.fills_int_mul F.slot_int_rmul repeat_tuple F.slot_int_index.lookup
    (call_meets F.slot_int_rmul (typeIs_int s k t) F.entry_int_rmul (F.args_int_rmul_2 _ _) (int_rmul_tuple k t l its.toArray n dd sl)
     ⟨ho,rfl,⟨_,ho,rfl⟩,call_meets F.slot_tuple_mul ⟨_,ho,rfl⟩ F.entry_tuple_mul (F.args_tuple_mul_2 _ _) (QbG l its.toArray n sl dd k t (by omega) (by omega) hi) ⟨ho,?_⟩⟩)
   have e0:(Qy k.toNat xs).flatten = []:=by
    rw [show k.toNat = 0 by omega]
    rfl
   have q:=q2 hk1
   rw [e0] at q
   exact ⟨.ref s.heap.objs.size,_,I.laid (t':=s.toks) (o:=.tup []) (fun b ob q=>Heap.get?_push_of_some _ q) (Jb _) ⟨Jh _,[],.nil,IsTup.new _ _⟩,rfl,q _ (I.hok.fresh (Jb _))⟩
def Q6q (K:PySem.W.Frag):R2:=fun x y H Q=>rI CMul (fun i j=>.int (i * j)) x y H Q ∨ Q9s K x y H Q
theorem Q9o:OpR X (binaryOp .Mult) (Q6q X.K):=op_mul.or Q8S
theorem QaO:OpS X (Q6q X.K) Q3Y:=by
 intro Y F H δ σ A R x y d e z S rx ry hg Q k
 cases d with
 | int i =>
  cases e with
  | int j =>
   simp only [Q3Y] at hg
   split at hg
   ·rename_i hz
    cases hg
    rw [rx.int,ry.int]
    refine .inl ⟨i,j,rfl,rfl,?_,k _ F H Stp.refl S (.int _)⟩
    simp only [Q18,J3,Q4,decide_eq_true_eq] at hz
    exact hz
   ·cases hg
  | _=>cases hg
 | tuple i =>
  cases e with
  | int j =>
   simp only [Q3Y] at hg
   split at hg
   ·rename_i hz
    cases hg
    simp only [Q4,decide_eq_true_eq,Bool.not_eq_true'] at hz
    obtain ⟨⟨⟨z1,z0⟩,z2⟩,z3⟩:=hz
    obtain ⟨a,xs,rfl,h0,h1,r1⟩:=rx.tup S
    rw [ry.int]
    refine .inr ⟨a,j,xs,rfl,rfl,h1,?_,z0,z2,by rw [r1.length]; exact z3,fun e1=>?_,fun e1 p hp=>?_⟩
    ·intro e0
     subst e0
     cases r1
     cases z1
    ·subst e1
     exact k _ F H Stp.refl S (.tup h0 (by simpa using r1))
    ·exact k _ _ _ (Stp.laid S hp) (S.laid hp) (.tup (.inl (.inl upd_same)) ((r1.rep _).mono (Stp.laid (M:=[]) S hp).f))
   ·cases hg
  | _=>cases hg
 | _=>cases hg
end
end Z
namespace Z
open PySem PySem.Spec PyProof.Rows L2
theorem DGet.f {H:Hp} {a:Addr} {o:Obj} {kvs:List (Key × V)} {k:Key} (e:H a = some (.frz o (.dK kvs))):DGet H a (kV k) (valV kvs k):=.inl ⟨kvs,k,.inr ⟨o,e⟩,rfl,rfl⟩
def W1:D → Option Key
 | .int i=>some (.inl i)
 | .str s=>some (.inr s)
 | _=>none
theorem Xy (k:Key):W1 (Q2N k) = some k:=by cases k <;> rfl
def Q1L (ds:List (D × D)) (k:Key):Option D:=(ds.find? fun p=>decide (W1 p.1 = some k)).map (·.2)
theorem RpK.val {K:PySem.W.Frag} {G:Hp}:∀ {kvs:List (Key × V)} {ds:List (D × D)} (k:Key),RpK K G kvs ds → (valV kvs k = none ∧ Q1L ds k = none) ∨ ∃ v d,valV kvs k = some v ∧ Q1L ds k = some d ∧ Rp K G v d
 | _,_,_,.nil=>.inl ⟨rfl,rfl⟩
 | _,_,k,.cons (k:=k0) (v:=v0) (r:=r0) (d:=d0) (ds:=ds0) h r=>by
  by_cases e:k0 = k
  ·refine .inr ⟨_,_,valV_pos e,?_,h⟩
   unfold Q1L
   rw [List.find?_cons_of_pos (by rw [Xy,e]; simp)]
   rfl
  ·have e1:Q1L ((Q2N k0,d0) :: ds0) k = Q1L ds0 k:=by
    unfold Q1L
    rw [List.find?_cons_of_neg (by rw [Xy]; simpa using e)]
   rw [valV_neg (p:=(k0,v0)) e,e1]
   exact r.val k
def shp (d:D):Bool:=d.plain && decide (d.depth ≤ 64)
def eqD (d e:D):Option Bool:=if shp d && shp e then some (Jp d e) else none
def neD (d e:D):Option Bool:=(eqD d e).map (!·)
def ltD:D → D → Option Bool
 | .int a,.int b=>some (decide (a < b))
 | .tuple a,.tuple b=>if PySem.W.alike (.tuple a) (.tuple b) && decide ((PyData.tuple a).depth ≤ 64) then some (PySem.W.dataLt (.tuple a) (.tuple b)) else none
 | _,_=>none
def leD:D → D → Option Bool
 | .int a,.int b=>some (decide (a ≤ b))
 | _,_=>none
def geD:D → D → Option Bool
 | .int a,.int b=>some (decide (b ≤ a))
 | _,_=>none
def inD (d:D):D → Option Bool
 | .list ds=>if shp d && shp (.list ds) then some (ds.any fun z=>Jp z d) else none
 | .tuple ds=>if shp d && shp (.tuple ds) then some (ds.any fun z=>Jp z d) else none
 | .dict ds=>(W1 d).map fun k=>(Q1L ds k).isSome
 | .str z=>match d with
  | .str x=>some (!(Builtin.Str.occurrences z x 0 z.length 1).isEmpty)
  | _=>none
 | _=>none
section
variable {X:Cx}
def Q45 (X:Cx) (op:CmpOp) (g:D → D → Option Bool):Prop :=
 ∀ (pins:List (Addr × Obj)) (s:Shared) (σ:L2.St) (H:Hp) (x y:V) (v u:Value) (Q:VK),L2.Inv X pins σ H s → RelV x v → RelV y u → ∀ (G:Hp) (d e:D) (b:Bool),Same G H → Rp X.K G x d → Rp X.K G y e → g d e = some b → Q (.bl b) H →
  wpAny (model X.prog X.w) X.A (compareOp op v u) (EP X pins σ Q) X.xe s
def Q9M (X:Cx) (g:D → D → Option Bool):R2:=fun x y H Q=>∃ G d e b,Same G H ∧ Rp X.K G x d ∧ Rp X.K G y e ∧ g d e = some b ∧ Q (.bl b) H
def bD (g:D → D → Option Bool):D → D → Option D:=fun d e=>(g d e).map Qg
theorem Q45.op {op:CmpOp} {g} (h:Q45 X op g):OpR X (compareOp op) (Q9M X g):=by
 intro pins s σ H x y v u Q I rx ry q
 obtain ⟨G,d,e,b,sG,r1,r2,hg,q⟩:=q
 exact h pins s σ H x y v u Q I rx ry G d e b sG r1 r2 hg q
theorem Xh {g}:OpS X (Q9M X g) (bD g):=by
 intro Y F H δ σ A R x y d e z S rx ry hg Q k
 unfold bD at hg
 cases e1:g d e with
 | none=>rw [e1] at hg; cases hg
 | some b =>
  rw [e1] at hg
  cases hg
  exact ⟨_,d,e,b,Q0k S,rx.ex S,ry.ex S,e1,k _ F H Stp.refl S (.bl _)⟩
theorem V5 {d:D} (h:shp d = true):d.plain = true:=by
 unfold shp at h
 rw [Q4] at h
 exact h.1
theorem Q02 {d:D} (h:shp d = true):d.depth ≤ 64:=by
 unfold shp at h
 rw [Q4,decide_eq_true_eq] at h
 exact h.2
theorem Q5Q {ds:List D} (h:shp (.list ds) = true):Ju ds = true:=V5 h
theorem Q4Y {ds:List D} (h:shp (.tuple ds) = true):Ju ds = true:=V5 h
theorem Vz (hu:X.A.units + 65 < cLine):Q45 X .Eq eqD:=by
 intro pins s σ H x y v u Q I rx ry G d e b sG r1 r2 hg q
 unfold eqD at hg
 split at hg
 ·rename_i c
  cases hg
  rw [Q4] at c
  obtain ⟨as,q1⟩:=Rp.reads I sG d x v r1 rx
  obtain ⟨bs,q2⟩:=Rp.reads I sG e y u r2 ry
  exact SeqAt.eq_plain q1 q2 (V5 c.1) (V5 c.2) (by have:=Q02 c.1; have:min d.depth e.depth ≤ d.depth:=Nat.min_le_left _ _; omega) ⟨.bl _,H,I,rfl,q⟩
 ·cases hg
theorem Q1B (hu:X.A.units + 65 < cLine):Q45 X .NotEq neD:=by
 intro pins s σ H x y v u Q I rx ry G d e b sG r1 r2 hg q
 unfold neD eqD at hg
 split at hg
 ·rename_i c
  cases hg
  rw [Q4] at c
  obtain ⟨as,q1⟩:=Rp.reads I sG d x v r1 rx
  obtain ⟨bs,q2⟩:=Rp.reads I sG e y u r2 ry
  exact SeqAt.ne_plain q1 q2 (V5 c.1) (V5 c.2) (by have:=Q02 c.1; have:min d.depth e.depth ≤ d.depth:=Nat.min_le_left _ _; omega) ⟨.bl _,H,I,rfl,q⟩
 ·cases hg
theorem Qbr (hu:X.A.units + 65 < cLine):Q45 X .Lt ltD:=by
 intro pins s σ H x y v u Q I rx ry G d e b sG r1 r2 hg q
 unfold ltD at hg
 split at hg
 ·cases hg
  cases r1
  cases r2
  exact op_lt pins s σ H _ _ v u Q I rx ry ⟨_,_,rfl,rfl,q⟩
 ·rename_i a b'
  split at hg
  ·rename_i c
   cases hg
   rw [Q4] at c
   obtain ⟨as,q1⟩:=Rp.reads I sG (.tuple a) x v r1 rx
   obtain ⟨bs,q2⟩:=Rp.reads I sG (.tuple b') y u r2 ry
   have h1:=of_decide_eq_true c.2
   have h2:min (PyData.tuple a).depth (PyData.tuple b').depth ≤ (PyData.tuple a).depth:=Nat.min_le_left _ _
   exact PySem.W.rcLt_alike (.tuple a) (.tuple b') X.A s v u as bs q1 q2 c.1 (by simp) (by omega) X.prog X.w X.xe _ ⟨.bl _,H,I,rfl,q⟩
  ·cases hg
 ·cases hg
theorem Q36:Q45 X .LtE leD:=by
 intro pins s σ H x y v u Q I rx ry G d e b sG r1 r2 hg q
 unfold leD at hg
 split at hg
 ·cases hg
  cases r1
  cases r2
  exact op_le pins s σ H _ _ v u Q I rx ry ⟨_,_,rfl,rfl,q⟩
 ·cases hg
theorem QbO:Q45 X .GtE geD:=by
 intro pins s σ H x y v u Q I rx ry G d e b sG r1 r2 hg q
 unfold geD at hg
 split at hg
 ·cases hg
  cases r1
  cases r2
  exact op_ge pins s σ H _ _ v u Q I rx ry ⟨_,_,rfl,rfl,q⟩
 ·cases hg
theorem Q7P {K:PySem.W.Frag} {G:Hp} {x:V} {d:D} {k:Key} (h:W1 d = some k) (r:Rp K G x d):x = kV k:=by
 cases r with
 | int i=>cases h; rfl
 | str i=>cases h; rfl
 | _=>cases h
theorem QbL (hu:X.A.units + 65 < cLine):Q45 X .In inD:=by
 intro pins s σ H x y v u Q I rx ry G d e b sG r1 r2 hg q
 obtain ⟨as,q1⟩:=Rp.reads I sG d x v r1 rx
 unfold inD at hg
 split at hg
 ·split at hg
  ·rename_i ds c
   cases hg
   rw [Q4] at c
   obtain ⟨bs,q2⟩:=Rp.reads I sG (.list ds) y u r2 ry
   exact SeqAt.in_list_data q2 q1 (Q5Q c.2) (V5 c.1) (by have:=Q02 c.1; have:min (Jk ds) d.depth ≤ d.depth:=Nat.min_le_right _ _; omega) ⟨.bl _,H,I,rfl,q⟩
  ·cases hg
 ·split at hg
  ·rename_i ds c
   cases hg
   rw [Q4] at c
   obtain ⟨bs,q2⟩:=Rp.reads I sG (.tuple ds) y u r2 ry
   exact SeqAt.in_tuple_data q2 q1 (Q4Y c.2) (V5 c.1) (by have:=Q02 c.1; have:min (Jk ds) d.depth ≤ d.depth:=Nat.min_le_right _ _; omega) ⟨.bl _,H,I,rfl,q⟩
  ·cases hg
 ·rename_i ds
  cases e1:W1 d with
  | none=>rw [e1] at hg; cases hg
  | some k =>
   rw [e1] at hg
   cases hg
   cases r2 with
   | dic h1 rk =>
    cases ry
    have ex:=Q7P e1 r1
    subst ex
    refine d_in (by omega) I (DGet.f (sG _ _ h1)) rx fun s' I'=>⟨.bl _,H,I',rfl,?_⟩
    rcases rk.val k with ⟨v1,v2⟩ | ⟨v0,d0,v1,v2,_⟩
    ·simp only [v2] at q; rw [v1]; exact q
    ·simp only [v2] at q; rw [v1]; exact q
 ·split at hg
  ·cases hg
   cases r1
   cases r2
   exact op_in_str pins s σ H _ _ v u Q I rx ry ⟨_,_,rfl,rfl,q⟩
  ·cases hg
 ·cases hg
end
end Z
namespace Z
open PySem PySem.Spec PyProof.Rows L2
section
variable {X:Cx} {pos:Pos}
theorem SR.seen {K:PySem.W.Frag} {Y:Fx} {F H:Hp} {δ:List Sl} {σ:L2.St} {A:Nat → List Addr} (S:SR K Y F H δ σ A) {p:Addr} {o:HO} (hp:H p = none):SR K Y (upd F p o) (upd H p o) δ σ A:=S.laid hp
def V7 (d e:D):Option D:=(Q7U d e).or (Q9V d e)
def Yx (d e:D):Option D:=(Q3Y d e).or (Qam d e)
def Q9C (K:PySem.W.Frag):R2:=fun x y H Q=>Q7C K x y H Q ∨ rCat x y H Q
theorem Y0:OpR X (binaryOp .Add) (Q9C X.K):=Q8z.or op_cat
theorem Q5L {d e z:D} (h:Q9V d e = some z):∃ a b,d = .list a ∧ e = .list b ∧ a.length + b.length ≤ sizeLine ∧ z = .list (a ++ b):=by
 unfold Q9V at h
 split at h
 ·split at h
  ·rename_i hz
   cases h
   exact ⟨_,_,rfl,rfl,hz,rfl⟩
  ·cases h
 ·cases h
theorem Y1:OpS X (Q9C X.K) V7:=by
 intro Y F H δ σ A R x y d e z S rx ry hg Q k
 unfold V7 at hg
 cases e1:Q7U d e with
 | some w =>
  rw [e1] at hg
  cases hg
  exact .inl (Qaf Y F H δ σ A R x y d e _ S rx ry e1 Q k)
 | none =>
  rw [e1] at hg
  obtain ⟨i,j,rfl,rfl,hz,rfl⟩:=Q5L hg
  obtain ⟨a,xs,rfl,h1,r1⟩:=rx.list S
  obtain ⟨b,ys,rfl,h2,r2⟩:=ry.list S
  exact .inr ⟨a,b,xs,ys,rfl,rfl,h1,h2,by rw [r1.length,r2.length]; exact hz,fun p hp=>k _ _ _ (Stp.laid S hp) (S.laid hp) (.lst upd_same ((r1.append r2).mono (Stp.laid (M:=[]) S hp).f))⟩
def Q9F (K:PySem.W.Frag):R2:=fun x y H Q=>Q6q K x y H Q ∨ rRep x y H Q
theorem Vb:OpR X (binaryOp .Mult) (Q9F X.K):=Q9o.or op_rep
theorem Q5K {d e z:D} (h:Qam d e = some z):∃ xs k,d = .list xs ∧ e = .int k ∧ 0 ≤ k ∧ k < 2 ^ 62 ∧ xs.length * k.toNat ≤ sizeLine ∧ z = .list (Qy k.toNat xs).flatten:=by
 unfold Qam at h
 split at h
 ·split at h
  ·rename_i hz
   cases h
   simp only [Q4,decide_eq_true_eq] at hz
   exact ⟨_,_,rfl,rfl,hz.1.1,hz.1.2,hz.2,rfl⟩
  ·cases h
 ·cases h
theorem Vc:OpS X (Q9F X.K) Yx:=by
 intro Y F H δ σ A R x y d e z S rx ry hg Q k
 unfold Yx at hg
 cases e1:Q3Y d e with
 | some w =>
  rw [e1] at hg
  cases hg
  exact .inl (QaO Y F H δ σ A R x y d e _ S rx ry e1 Q k)
 | none =>
  rw [e1] at hg
  obtain ⟨i,j,rfl,rfl,z1,z2,hz,rfl⟩:=Q5K hg
  obtain ⟨a,xs,rfl,h1,r1⟩:=rx.list S
  rw [ry.int]
  exact .inr ⟨a,j,xs,rfl,rfl,h1,by omega,by omega,by rw [r1.length]; exact hz,fun p hp=>k _ _ _ (Stp.laid S hp) (S.laid hp) (.lst upd_same ((r1.rep _).mono (Stp.laid (M:=[]) S hp).f))⟩
def QaY:D → Option D
 | .int i=>some (.int (-i))
 | _=>none
def f1 (g:D → Option D) (fa:List Sl → Option (D × List Sl)):List Sl → Option (D × List Sl):=fun δ=>(fa δ).bind fun p=>(g p.1).map fun z=>(z,p.2)
theorem Q5p {g:D → Option D} {fa:List Sl → Option (D × List Sl)} {δ δ':List Sl} {z:D} (h:f1 g fa δ = some (z,δ')):∃ d,fa δ = some (d,δ') ∧ g d = some z:=by
 unfold f1 at h
 cases e1:fa δ with
 | none=>rw [e1] at h; cases h
 | some p =>
  obtain ⟨d,δ1⟩:=p
  rw [e1] at h
  simp only [Q1] at h
  cases e3:g d with
  | none=>rw [e3] at h; cases h
  | some w =>
   rw [e3] at h
   cases h
   exact ⟨d,rfl,e3⟩
theorem Qaa {a:Expr} {fa} {R M:List Nat} (ha:EV X a fa R M):EV X (.UnaryOp .USub a pos) (f1 QaY fa) [] M:=by
 obtain ⟨t,p,q⟩:=ha
 refine ⟨_,pe_un un_neg p,fun Y F H δ σ A S z δ' e Q k=>?_⟩
 obtain ⟨d,e1,e2⟩:=Q5p e
 refine q Y F H δ σ A S d δ' e1 _ fun v F1 H1 st S1 r=>?_
 cases d with
 | int i =>
  cases e2
  exact ⟨i,r.int,k _ F1 H1 st S1 (.inl (.int _))⟩
 | _=>cases e2
def QbD:R2:=fun x y H Q=>∃ a v,x = .ref a ∧ DGet H a y (some v) ∧ Q v H
theorem Q8O (hu:X.A.units + 1 < cLine):IxR X QbD:=by
 intro value slice pins s σ H x y v u Q I rx ry h hs
 obtain ⟨a,z,rfl,g,q⟩:=h
 cases rx
 exact tail_any (dict_typeIs I g) PySem.F.slot_dict_getitem.lookup (d_getItem hu I g ry fun w' s' I' r'=>⟨z,H,I',r',q⟩) hs
def QbC (K:PySem.W.Frag):R2:=fun x y H Q=>rIx K x y H Q ∨ QbD x y H Q
theorem Q6f (hu:X.A.units + 1 < cLine):IxR X (QbC X.K):=ix_seq.or (Q8O hu)
def Vi:D → D → Option D
 | .list ds,.int i=>atI ds i
 | .tuple ds,.int i=>atI ds i
 | .str z,.int i=>if z.length ≤ sizeLine then (atI z.cps.toList i).map fun c=>.str ⟨#[c]⟩ else none
 | .dict ds,k=>(W1 k).bind (Q1L ds)
 | _,_=>none
theorem Rps.at {K:PySem.W.Frag} {G:Hp} {xs:List V} {ds:List D} {i:Int} {d:D} (h:Rps K G xs ds) (e:atI ds i = some d):∃ v,atI xs i = some v ∧ Rp K G v d:=by
 unfold atI at e ⊢
 rw [h.length]
 cases e1:ixN ds.length i with
 | none=>rw [e1] at e; cases e
 | some j =>
  rw [e1] at e
  exact h.get e
theorem Qa3:OpS X (QbC X.K) Vi:=by
 intro Y F H δ σ A R x y d e z S rx ry hg Q k
 unfold Vi at hg
 split at hg
 ·rename_i ds i
  obtain ⟨a,xs,rfl,h1,r1⟩:=rx.list S
  obtain ⟨v,e1,r⟩:=r1.at hg
  rw [ry.int]
  exact .inl (.inl ⟨a,xs,i,v,rfl,rfl,SqL.of h1,e1,k v F H Stp.refl S r⟩)
 ·rename_i ds i
  obtain ⟨a,xs,rfl,_,h1,r1⟩:=rx.tup S
  obtain ⟨v,e1,r⟩:=r1.at hg
  rw [ry.int]
  exact .inl (.inr (.inl ⟨a,xs,i,v,rfl,rfl,h1,e1,k v F H Stp.refl S r⟩))
 ·rename_i zz i
  split at hg
  ·rename_i hz
   rw [rx.str,ry.int]
   cases e1:atI zz.cps.toList i with
   | none=>rw [e1] at hg; cases hg
   | some c =>
    rw [e1] at hg
    cases hg
    exact .inl (.inr (.inr ⟨zz,i,c,rfl,rfl,hz,e1,k _ F H Stp.refl S (.str _)⟩))
  ·cases hg
 ·rename_i ds _
  cases e1:W1 e with
  | none=>rw [e1] at hg; cases hg
  | some k' =>
   rw [e1] at hg
   obtain ⟨a,_,kvs,rfl,h1,r1⟩:=rx.dict S
   have ey:=Q7P e1 (ry.ex S)
   subst ey
   rcases r1.val k' with ⟨_,v2⟩ | ⟨v0,d0,v1,v2,r0⟩
   ·simp only [Q1] at hg
    rw [v2] at hg; cases hg
   ·simp only [Q1] at hg
    rw [v2] at hg; cases hg
    refine .inr ⟨a,v0,rfl,?_,k v0 F H Stp.refl S r0⟩
    rw [← v1]
    exact DGet.f h1
 ·cases hg
theorem Yi {a b:Expr} {fa fb} {Ra Rb Ma Mb:List Nat} (hu:X.A.units + 1 < cLine) (ha:EV X a fa Ra Ma) (hb:EV X b fb Rb Mb) (dj:∀ i ∈ Ra,i ∉ Mb:=by decide) (hs:PlainIx b:=by intro _ _; rfl):EV X (.Subscript a b pos) (f2 Vi fa fb) [] (Ma ++ Mb):=by
 obtain ⟨ta,tb,pa,pb,q⟩:=two (g:=Vi) ha hb dj
 refine ⟨_,pe_ix (Q6f hu) pa pb hs,fun Y F H δ σ A S z δ' e Q k=>?_⟩
 refine q Y F H δ σ A S z δ' e _ fun x y d e F1 H1 st S1 r1 r2 hg=>?_
 refine Qa3 Y F1 H1 δ' σ A _ x y d e z S1 r1 r2 hg Q fun v F2 H2 st2 S2 r3=>?_
 exact k v F2 H2 (Xq S1 st st2) S2 (.inl r3)
def OV (X:Cx) (e:Option Expr) (f:List Sl → Option (Option Int × List Sl)) (M:List Nat):Prop :=
 ∃ t,PO X e t ∧ ∀ (Y:Fx) (F H:Hp) (δ:List Sl) (σ:L2.St) (A:Nat → List Addr),SR X.K Y F H δ σ A → ∀ (d:Option Int) (δ':List Sl),f δ = some (d,δ') → ∀ Q:Option Int → Hp → Prop,
  (∀ F' H',Stp A M F H F' H' → SR X.K Y F' H' δ' σ A → Q d H') → t σ H Q
def Q2i:List Sl → Option (Option Int × List Sl):=fun δ=>some (none,δ)
def Q0S (fa:List Sl → Option (D × List Sl)):List Sl → Option (Option Int × List Sl):=fun δ=>(fa δ).bind fun p=>match p.1 with | .int i=>some (some i,p.2) | _=>none
theorem Q0P:OV X none Q2i []:=by
 refine ⟨_,po_none,fun Y F H δ σ A S d δ' e Q k=>?_⟩
 cases e
 exact k F H Stp.refl S
theorem Q0K {a:Expr} {fa} {R M:List Nat} (ha:EV X a fa R M):OV X (some a) (Q0S fa) M:=by
 obtain ⟨t,p,q⟩:=ha
 refine ⟨_,po_some p,fun Y F H δ σ A S d δ' e Q k=>?_⟩
 unfold Q0S at e
 cases e1:fa δ with
 | none=>rw [e1] at e; cases e
 | some p =>
  obtain ⟨d1,δ1⟩:=p
  rw [e1] at e
  refine q Y F H δ σ A S d1 δ1 e1 _ fun v F1 H1 st S1 r=>?_
  cases d1 with
  | int i =>
   cases e
   exact ⟨i,r.int,k F1 H1 st S1⟩
  | _=>cases e
def Kd {α:Type} (xs:List α) (lo hi:Option Int):List α:=(xs.drop (HT.sIx xs.length 0 lo)).take (HT.sIx xs.length xs.length hi - HT.sIx xs.length 0 lo)
theorem Rps.cut {K:PySem.W.Frag} {G:Hp} {xs:List V} {ds:List D} (h:Rps K G xs ds) (lo hi:Option Int):Rps K G (cutV xs lo hi) (Kd ds lo hi):=by
 unfold cutV Kd
 rw [h.length]
 exact (h.drop _).take _
def Q3l (d:D) (lo hi:Option Int):Option D :=
 match d with
 | .list ds=>some (.list (Kd ds lo hi))
 | .tuple ds=>some (.tuple (Kd ds lo hi))
 | .str z=>if z.length ≤ sizeLine then some (.str (cutS z lo hi)) else none
 | _=>none
def f3 (g:D → Option Int → Option Int → Option D) (fa:List Sl → Option (D × List Sl)) (fl fh:List Sl → Option (Option Int × List Sl)):List Sl → Option (D × List Sl):=fun δ=>(fa δ).bind fun p=>(fl p.2).bind fun q=>(fh q.2).bind fun r=>(g p.1 q.1 r.1).map fun z=>(z,r.2)
theorem Q8f {g:D → Option Int → Option Int → Option D} {fa fl fh} {δ δ':List Sl} {z:D} (h:f3 g fa fl fh δ = some (z,δ')):∃ d δ1 lo δ2 hi,fa δ = some (d,δ1) ∧ fl δ1 = some (lo,δ2) ∧ fh δ2 = some (hi,δ') ∧ g d lo hi = some z:=by
 unfold f3 at h
 cases e1:fa δ with
 | none=>rw [e1] at h; cases h
 | some p =>
  obtain ⟨d,δ1⟩:=p
  rw [e1] at h
  simp only [Q1] at h
  cases e2:fl δ1 with
  | none=>rw [e2] at h; cases h
  | some q =>
   obtain ⟨lo,δ2⟩:=q
   rw [e2] at h
   simp only [Q1] at h
   cases e3:fh δ2 with
   | none=>rw [e3] at h; cases h
   | some q =>
    obtain ⟨hi,δ3⟩:=q
    rw [e3] at h
    simp only [Q1] at h
    cases e4:g d lo hi with
    | none=>rw [e4] at h; cases h
    | some w =>
     rw [e4] at h
     cases h
     exact ⟨d,δ1,lo,δ2,hi,rfl,e2,e3,e4⟩
def rSl3 (K:PySem.W.Frag):V → Option Int → Option Int → Hp → VK → Prop:=fun x lo hi H Q=>rSlL K x lo hi H Q ∨ rSlA K x lo hi H Q ∨ ∃ z,x = .str z ∧ z.length ≤ sizeLine ∧ Q (.str (cutS z lo hi)) H
theorem Q8L {α:Type} (xs:List α) (lo hi:Option Int) (h:HT.sIx xs.length 0 lo = 0 ∧ HT.sIx xs.length xs.length hi = xs.length):Kd xs lo hi = xs:=by
 unfold Kd
 rw [h.1,h.2]
 simp
theorem sl_3:SlR X (rSl3 X.K):=sl_list.or (sl_tupA.or sl_str)
theorem Zr {a:Expr} {lo hi:Option Expr} {fa fl fh} {R M Ml Mh:List Nat} {p2:Pos} (ha:EV X a fa R M) (hl:OV X lo fl Ml) (hh:OV X hi fh Mh) (d1:∀ i ∈ R,i ∉ Ml:=by decide) (d2:∀ i ∈ R,i ∉ Mh:=by decide):EV X (.Subscript a (.Slice lo hi none p2) pos) (f3 Q3l fa fl fh) [] (M ++ Ml ++ Mh):=by
 obtain ⟨t,p,q⟩:=ha
 obtain ⟨tl,pl,ql⟩:=hl
 obtain ⟨th,ph,qh⟩:=hh
 refine ⟨_,pe_slice sl_3 p pl ph,fun Y F H δ σ A S z δ' e Q k=>?_⟩
 obtain ⟨d,δ1,l,δ2,h,e1,e2,e3,e4⟩:=Q8f e
 refine q Y F H δ σ A S d δ1 e1 _ fun x F1 H1 st1 S1 r1=>?_
 refine ql Y F1 H1 δ1 σ A S1 l δ2 e2 _ fun F2 H2 st2 S2=>?_
 refine qh Y F2 H2 δ2 σ A S2 h δ' e3 _ fun F3 H3 st3 S3=>?_
 have st:Stp A (M ++ Ml ++ Mh) F H F3 H3:=(st1.trans S1 st2).trans S2 st3
 have r3:Vw X.K F3 H3 A R x d:=(r1.step S1 st2 d1).step S2 st3 d2
 unfold Q3l at e4
 split at e4
 ·cases e4
  obtain ⟨a',xs,rfl,h1,r⟩:=r3.list S3
  exact .inl ⟨a',xs,rfl,SqL.of h1,fun p hp=>k _ _ _ (Xq S3 st (Stp.laid S3 hp)) (S3.laid hp) (.inl (.lst upd_same ((r.cut l h).mono (Stp.laid (M:=[]) S3 hp).f)))⟩
 ·cases e4
  obtain ⟨a',xs,rfl,h0,h1,r⟩:=r3.tup S3
  refine .inr (.inl ⟨a',xs,rfl,h1,fun c=>?_,fun c p hp=>?_⟩)
  ·refine k _ F3 H3 st S3 (.inl ?_)
   rw [r.length] at c
   rw [Q8L _ _ _ c]
   exact .tup h0 r
  ·exact k _ _ _ (Xq S3 st (Stp.laid S3 hp)) (S3.laid hp) (.inl (.tup (.inl (.inl upd_same)) ((r.cut l h).mono (Stp.laid (M:=[]) S3 hp).f)))
 ·split at e4
  ·rename_i hz
   cases e4
   exact .inr (.inr ⟨_,r3.str,hz,k _ F3 H3 st S3 (.inl (.str _))⟩)
  ·cases e4
 ·cases e4
theorem Q6y {K:PySem.W.Frag} {Y:Fx} {F H F1 H1:Hp} {δ1:List Sl} {σ:L2.St} {A:Nat → List Addr} {M:List Nat} {p:Addr} (st:Stp A M F H F1 H1) (S1:SR K Y F1 H1 δ1 σ A) (n:H1 p = none):H p = none:=by
 cases e5:H p with
 | none=>rfl
 | some o =>
  by_cases c:∃ i,p ∈ A i
  ·obtain ⟨i,hi⟩:=c
   exact absurd n (S1.isSome hi)
  ·have:=st.kp p o e5 fun i _ hi=>c ⟨i,hi⟩
   rw [n] at this
   cases this
def Q1x (X:Cx) (r:List V → Hp → VK → Prop) (g:List D → Option D):Prop :=
 ∀ (Y:Fx) (F H:Hp) (δ:List Sl) (σ:L2.St) (A:Nat → List Addr) (R:List Nat) (xs:List V) (ds:List D) (z:D),SR X.K Y F H δ σ A → Vws X.K F H A R xs ds → g ds = some z →
  ∀ Q:VK,(∀ v F' H',Stp A [] F H F' H' → SR X.K Y F' H' δ σ A → Rp X.K F' v z → Q v H') → r xs H Q
def fA (g:List D → Option D) (f:List Sl → Option (List D × List Sl)):List Sl → Option (D × List Sl):=fun δ=>(f δ).bind fun p=>(g p.1).map fun z=>(z,p.2)
theorem Q3D {g:List D → Option D} {f:List Sl → Option (List D × List Sl)} {δ δ':List Sl} {z:D} (h:fA g f δ = some (z,δ')):∃ d,f δ = some (d,δ') ∧ g d = some z:=by
 unfold fA at h
 cases e1:f δ with
 | none=>rw [e1] at h; cases h
 | some p =>
  obtain ⟨d,δ1⟩:=p
  rw [e1] at h
  simp only [Q1] at h
  cases e3:g d with
  | none=>rw [e3] at h; cases h
  | some w =>
   rw [e3] at h
   cases h
   exact ⟨d,rfl,e3⟩
section
variable {x:Str} {id T:String} {e:Expr} {es:List Expr} {f:List Sl → Option (List D × List Sl)} {R M:List Nat} {r:List V → Hp → VK → Prop} {g:List D → Option D} {p:Pos}
structure Bn (X:Cx) (x:Str) (v:Value):Prop where
 gl:Gl X x
 mg:X.mg x = none
 bt:bootBuiltins x = some v
 nn:x ≠ "__name__"
 db:(x == ("__debug__":Str)) = false
theorem Yp (b:Bn X x (.builtin id)) (hc:CallR X (.builtin id) r) (hs:Q1x X r g) (ha:AV X (e :: es) f R M) (h1:starEach (e :: es) X.env = (false,eval e X.env) :: starEach es X.env:=by rfl) (h2:(backTo pos (starEach es X.env)).any (·.1) = false:=by rfl):EV X (.Call (.Name x p) (e :: es) [] pos) (fA g f) [] M:=by
 obtain ⟨t,pa,q⟩:=ha
 refine ⟨_,pe_callB hc b.gl b.mg b.bt pa b.nn b.db h1 h2,fun Y F H δ σ A S z δ' e Q k=>?_⟩
 obtain ⟨d,e1,e2⟩:=Q3D e
 refine q Y F H δ σ A S d δ' e1 _ fun vs F1 H1 st S1 r1=>?_
 exact hs Y F1 H1 δ' σ A _ vs d z S1 r1 e2 Q fun v F2 H2 st2 S2 r3=>k v F2 H2 (Xq S1 st st2) S2 (.inl r3)
theorem Q2p (b:Bn X x (.type T)) (hc:CallR X (.type T) r) (hs:Q1x X r g) (ha:AV X (e :: es) f R M) (h1:starEach (e :: es) X.env = (false,eval e X.env) :: starEach es X.env:=by rfl) (h2:(backTo pos (starEach es X.env)).any (·.1) = false:=by rfl):EV X (.Call (.Name x p) (e :: es) [] pos) (fA g f) [] M:=by
 obtain ⟨t,pa,q⟩:=ha
 refine ⟨_,pe_callTy hc b.gl b.mg b.bt pa b.nn b.db h1 h2,fun Y F H δ σ A S z δ' e Q k=>?_⟩
 obtain ⟨d,e1,e2⟩:=Q3D e
 refine q Y F H δ σ A S d δ' e1 _ fun vs F1 H1 st S1 r1=>?_
 exact hs Y F1 H1 δ' σ A _ vs d z S1 r1 e2 Q fun v F2 H2 st2 S2 r3=>k v F2 H2 (Xq S1 st st2) S2 (.inl r3)
end
end
end Z
namespace Z
open PySem PySem.Spec PyProof.Rows L2
section
variable {X:Cx}
theorem Vws.one {K:PySem.W.Frag} {F H:Hp} {A:Nat → List Addr} {R:List Nat} {vs:List V} {d:D} (h:Vws K F H A R vs [d]):∃ v,vs = [v] ∧ Vw K F H A R v d:=by
 match vs,h with
 | [v],⟨h,_⟩=>exact ⟨v,rfl,h⟩
 | [],h=>exact h.elim
 | _ :: _ :: _,⟨_,h⟩=>exact h.elim
theorem Vws.two {K:PySem.W.Frag} {F H:Hp} {A:Nat → List Addr} {R:List Nat} {vs:List V} {d e:D} (h:Vws K F H A R vs [d,e]):∃ v u,vs = [v,u] ∧ Vw K F H A R v d ∧ Vw K F H A R u e:=by
 match vs,h with
 | v :: r,⟨h,h'⟩ =>
  obtain ⟨u,rfl,h2⟩:=Vws.one h'
  exact ⟨v,u,rfl,h,h2⟩
 | [],h=>exact h.elim
def g1 (g:D → Option D):List D → Option D
 | [d]=>g d
 | _=>none
def g2 (g:D → D → Option D):List D → Option D
 | [d,e]=>g d e
 | _=>none
theorem Zz {g:D → Option D} {ds:List D} {z:D} (h:g1 g ds = some z):∃ d,ds = [d] ∧ g d = some z:=by
 unfold g1 at h
 split at h
 ·exact ⟨_,rfl,h⟩
 ·cases h
def Q05:D → Option D
 | .list ds=>some (.int ds.length)
 | .tuple ds=>some (.int ds.length)
 | .str z=>if z.length ≤ sizeLine then some (.int z.length) else none
 | _=>none
def QbA (K:PySem.W.Frag):List V → Hp → VK → Prop:=fun xs H Q=>(∃ p ys,xs = [.ref p] ∧ (SqL K H p ys ∨ SqT K H p ys) ∧ Q (.int ys.length) H) ∨ ∃ z,xs = [.str z] ∧ z.length ≤ sizeLine ∧ Q (.int z.length) H
theorem Kv:CallR X (.builtin "len") (QbA X.K):=call_len_seq.or call_len_str
theorem Z8:Q1x X (QbA X.K) (g1 Q05):=by
 intro Y F H δ σ A R xs ds z S r hg Q k
 obtain ⟨d,rfl,hg'⟩:=Zz hg
 clear hg
 have hg:=hg'
 obtain ⟨v,rfl,rv⟩:=r.one
 unfold Q05 at hg
 split at hg
 ·cases hg
  obtain ⟨a,ys,rfl,h1,r1⟩:=rv.list S
  refine .inl ⟨a,ys,rfl,.inl (SqL.of h1),?_⟩
  rw [r1.length]
  exact k _ F H Stp.refl S (.int _)
 ·cases hg
  obtain ⟨a,ys,rfl,_,h1,r1⟩:=rv.tup S
  refine .inl ⟨a,ys,rfl,.inr h1,?_⟩
  rw [r1.length]
  exact k _ F H Stp.refl S (.int _)
 ·split at hg
  ·rename_i hz
   cases hg
   exact .inr ⟨_,by rw [rv.str],hz,k _ F H Stp.refl S (.int _)⟩
  ·cases hg
 ·cases hg
def Q8K:D → Option D
 | .list ds=>some (.tuple ds)
 | .tuple ds=>some (.tuple ds)
 | _=>none
def Q7e (K:PySem.W.Frag):List V → Hp → VK → Prop:=fun xs H Q=>∃ p ys,xs = [.ref p] ∧ ((SqL K H p ys ∧ ∀ l,H l = none → Q (.ref l) (upd H l (.tup ys))) ∨ (SqT K H p ys ∧ Q (.ref p) H))
theorem Q7s:CallR X (.type "tuple") (Q7e X.K):=call_tuple_of
theorem Q83:Q1x X (Q7e X.K) (g1 Q8K):=by
 intro Y F H δ σ A R xs ds z S r hg Q k
 obtain ⟨d,rfl,hg'⟩:=Zz hg
 clear hg
 have hg:=hg'
 obtain ⟨v,rfl,rv⟩:=r.one
 unfold Q8K at hg
 split at hg
 ·cases hg
  obtain ⟨a,ys,rfl,h1,r1⟩:=rv.list S
  exact ⟨a,ys,rfl,.inl ⟨SqL.of h1,fun p hp=>k _ _ _ (Stp.laid S hp) (S.laid hp) (.tup (.inl (.inl upd_same)) (r1.mono (Stp.laid (M:=[]) S hp).f))⟩⟩
 ·cases hg
  obtain ⟨a,ys,rfl,h0,h1,r1⟩:=rv.tup S
  exact ⟨a,ys,rfl,.inr ⟨h1,k _ F H Stp.refl S (.tup h0 r1)⟩⟩
 ·cases hg
def Q98:D → Option D
 | .int i=>some (.int i)
 | .bool b=>some (.int (if b then 1 else 0))
 | _=>none
def Qbl:List V → Hp → VK → Prop:=fun xs H Q=>(∃ i,xs = [.int i] ∧ Q (.int i) H) ∨ ∃ k,xs = [.bl k] ∧ Q (.int (if k then 1 else 0)) H
theorem Q9R:CallR X (.type "int") Qbl:=call_int1
theorem Qa8:Q1x X Qbl (g1 Q98):=by
 intro Y F H δ σ A R xs ds z S r hg Q k
 obtain ⟨d,rfl,hg'⟩:=Zz hg
 clear hg
 have hg:=hg'
 obtain ⟨v,rfl,rv⟩:=r.one
 unfold Q98 at hg
 split at hg
 ·cases hg
  exact .inl ⟨_,by rw [rv.int],k _ F H Stp.refl S (.int _)⟩
 ·cases hg
  exact .inr ⟨_,by rw [rv.bl],k _ F H Stp.refl S (.int _)⟩
 ·cases hg
def Z2:List D → Option (List Int)
 | []=>some []
 | .int i :: r=>(Z2 r).map (i :: ·)
 | _ :: _=>none
theorem Q1y:∀ {ds:List D} {ns:List Int},Z2 ds = some ns → ds = ns.map Q0
 | [],_,h=>by cases h; rfl
 | d :: r,ns,h=>by
  cases d with
  | int i =>
   unfold Z2 at h
   cases e:Z2 r with
   | none=>rw [e] at h; cases h
   | some m =>
    rw [e] at h
    cases h
    rw [Q1y e]
    rfl
  | _=>cases h
theorem Q2h:∀ ns:List Int,Z2 (ns.map Q0) = some ns
 | []=>rfl
 | n :: ns=>by
  show (Z2 (ns.map Q0)).map (n :: ·) = _
  rw [Q2h ns]
  rfl
def Q69:D → Option D
 | .list ds=>(Z2 ds).map fun ns=>.int ns.sum
 | _=>none
theorem Q8i (hc:X.calm = true):CallR X (.builtin "sum") (rSum X.K):=cr_sum hc
theorem Q9Z:Q1x X (rSum X.K) (g1 Q69):=by
 intro Y F H δ σ A R xs ds z S r hg Q k
 obtain ⟨d,rfl,hg'⟩:=Zz hg
 clear hg
 have hg:=hg'
 obtain ⟨v,rfl,rv⟩:=r.one
 unfold Q69 at hg
 split at hg
 ·rename_i ds'
  cases e:Z2 ds' with
  | none=>rw [e] at hg; cases hg
  | some ns =>
   rw [e] at hg
   cases hg
   have e2:=Q1y e
   subst e2
   obtain ⟨a,ys,rfl,h1,r1⟩:=rv.list S
   have e3:=r1.ints
   subst e3
   exact ⟨a,ns,rfl,SqL.of h1,k _ F H Stp.refl S (.int _)⟩
 ·cases hg
def Qay (ds:List D):Bool:=ds.all fun d=>ds.all fun e=>PySem.W.alike d e
end
end Z
namespace Z
open PySem PySem.Spec PyProof.Rows L2
def uA (A:Nat → List Addr) (i:Nat) (l:List Addr):Nat → List Addr:=fun j=>if j = i then l else A j
theorem Q04 {A:Nat → List Addr} {i:Nat} {l:List Addr}:uA A i l i = l:=if_pos rfl
theorem Kz {A:Nat → List Addr} {i j:Nat} {l:List Addr} (h:j ≠ i):uA A i l j = A j:=if_neg h
section
variable {K:PySem.W.Frag} {Y:Fx} {F F' H H':Hp} {δ:List Sl} {σ:L2.St} {A:Nat → List Addr} {i:Nat}
theorem Q46 {v:Option V} (h:i < σ.length):jn (σ.set i v)[i]? = v:=by
 rw [Qp h]
 rfl
theorem Q1j {v:Option V} {j:Nat} (h:j ≠ i):jn (σ.set i v)[j]? = jn σ[j]?:=by
 rw [Qk (Ne.symm h)]
theorem Q7L {v:Option V} {fs:List (Str × Nat)} (h:∀ q ∈ fs,q.2 ≠ i):Q0r (σ.set i v) fs = Q0r σ fs:=by
 unfold Q0r
 induction fs with
 | nil=>rfl
 | cons q r ih =>
  rw [Jf,Jf,Q1j (h q Qe),ih fun x hx=>h x (Qb _ hx)]
theorem Qbe {io:Nat → Bool} {fs:List (Str × Nat)} (h:∀ q ∈ fs,io q.2 = true) (hio:io i = false):∀ q ∈ fs,q.2 ≠ i:=fun q hq z=>by
 have:=h q hq
 rw [z,hio] at this
 cases this
theorem SR.put (S:SR K Y F H δ σ A) (hi:i < δ.length) (hio:Y.io i = false) {s:Sl} {v:Option V} {l:List Addr} (hob:∀ c fs,s ≠ Sl.ob c fs) (h:Vy K F H s v l) (hF:∀ a ∈ l,F a = none) (hY:∀ a ∈ l,Y.H0 a = none) (hA:∀ a ∈ l,∀ j,j ≠ i → a ∉ A j) :
  SR K Y F H (δ.set i s) (σ.set i v) (uA A i l):=by
 have hs:i < σ.length:=by rw [← S.len]; exact hi
 refine ⟨by rw [Jl,Jl]; exact S.len,fun j t e=>?_,fun j e=>?_,fun j k a h1 h2=>?_,fun j a h1=>?_,fun j a h1 h2=>?_,S.sub,fun j h1=>?_,S.ioA,S.kp,S.nw,S.f0,S.lio,fun j c fs e=>?_,fun j hj=>?_⟩
 ·by_cases c:j = i
  ·subst c
   rw [Qp hi] at e
   cases e
   rw [Q46 hs,Q04]
   exact h
  ·rw [Qk (Ne.symm c)] at e
   rw [Q1j c,Kz c]
   exact S.slot j t e
 ·by_cases c:j = i
  ·subst c
   rw [Qp hi] at e
   cases e
  ·rw [Qk (Ne.symm c)] at e
   rw [Kz c]
   exact S.out j e
 ·by_cases c:j = i
  ·by_cases c2:k = i
   ·rw [c,c2]
   ·subst c
    rw [Q04] at h1
    rw [Kz c2] at h2
    exact absurd h2 (hA a h1 k c2)
  ·by_cases c2:k = i
   ·subst c2
    rw [Q04] at h2
    rw [Kz c] at h1
    exact absurd h1 (hA a h2 j c)
   ·rw [Kz c] at h1
    rw [Kz c2] at h2
    exact S.dis j k a h1 h2
 ·by_cases c:j = i
  ·subst c
   rw [Q04] at h1
   exact hF a h1
  ·rw [Kz c] at h1
   exact S.hid j a h1
 ·by_cases c:j = i
  ·subst c
   rw [Q04] at h1
   exact hY a h1
  ·rw [Kz c] at h1
   exact S.new j a h1 h2
 ·by_cases c:j = i
  ·subst c
   rw [S.nlt hio] at h1
   cases h1
  ·rw [Qk (Ne.symm c),Kz c]
   exact S.fix j h1
 ·by_cases c2:j = i
  ·subst c2
   rw [Qp hi] at e
   exact absurd (Qs.inj e) (hob c fs)
  ·rw [Qk (Ne.symm c2)] at e
   rw [Q1j c2]
   obtain ⟨h1,h2⟩:=S.ob j c fs e
   refine ⟨h1,fun p C dx fvs e1 e2=>?_⟩
   rw [Q7L (Qbe h1 (S.nvt hio))]
   exact h2 p C dx fvs e1 e2
 ·rw [Qk fun z=>by rw [← z,hio] at hj; cases hj]
  exact S.vno j hj
theorem SR.putFz (S:SR K Y F H δ σ A) (hi:i < δ.length) (hio:Y.io i = false) {d:D} {v:V} (h:Rp K F v d):SR K Y F H (δ.set i (.fz d)) (σ.set i (some v)) (uA A i []) :=
 S.put hi hio (fun _ _=>by simp) (show Vy K F H (.fz d) (some v) [] from ⟨rfl,v,rfl,h⟩) (by simp) (by simp) (by simp)
theorem SR.putNo (S:SR K Y F H δ σ A) (hi:i < δ.length) (hio:Y.io i = false) {v:Option V}:SR K Y F H (δ.set i .no) (σ.set i v) (uA A i []) :=
 S.put hi hio (fun _ _=>by simp) (show Vy K F H .no v [] from rfl) (by simp) (by simp) (by simp)
theorem SR.putOw (S:SR K Y F H δ σ A) (hi:i < δ.length) (hio:Y.io i = false) {d:D} {p:Addr} (hp:Y.H0 p = none) (hF:F p = none) (hA:∀ j,p ∉ A j) (h:Kc K F H p d):SR K Y F H (δ.set i (.ow d)) (σ.set i (some (.ref p))) (uA A i [p]) :=
 S.put hi hio (fun _ _=>by simp) (show Vy K F H (.ow d) (some (.ref p)) [p] from ⟨p,rfl,rfl,h⟩) (fun a ha=>by simp at ha; subst ha; exact hF) (fun a ha=>by simp at ha; subst ha; exact hp) (fun a ha j _=>by simp at ha; subst ha; exact hA j)
theorem SR.fresh0 (S:SR K Y F H δ σ A) {p:Addr} (hp:H p = none):Y.H0 p = none:=by
 cases e:Y.H0 p with
 | none=>rfl
 | some o =>
  by_cases c:∃ i,Y.lt i = true ∧ p ∈ Y.A0 i
  ·obtain ⟨i,hi,hA⟩:=c
   rw [← (S.fix i hi).2] at hA
   exact absurd hp (S.isSome hA)
  ·have:=S.kp p o e fun i hi z=>c ⟨i,hi,z⟩
   rw [hp] at this
   cases this
theorem SR.vno_set (S:SR K Y F H δ σ A) (hi:i < δ.length) {s:Sl} (h:s ≠ Sl.no):∀ (j:Nat),Y.io j = true → (δ.set i s)[j]? ≠ some Sl.no:=fun j hj=>by
 by_cases c:j = i
 ·subst c
  rw [Qp hi]
  exact fun z=>h (Qs.inj z)
 ·rw [Qk (Ne.symm c)]
  exact S.vno j hj
theorem SR.ob_set (S:SR K Y F H δ σ A) (hi:i < δ.length) {s:Sl} (hob:∀ c fs,s ≠ Sl.ob c fs) (k:∀ j,j ≠ i → ∀ a ∈ A j,H' a = H a):∀ (j:Nat) (c:Str) (fs:List (Str × Nat)),(δ.set i s)[j]? = some (Sl.ob c fs) → ObR Y.vt H' (jn σ[j]?) σ fs:=fun j c fs e=>by
 by_cases c2:j = i
 ·subst c2
  rw [Qp hi] at e
  exact absurd (Qs.inj e) (hob c fs)
 ·rw [Qk (Ne.symm c2)] at e
  obtain ⟨h1,h2⟩:=S.ob j c fs e
  refine ⟨h1,fun p C dx fvs e1 e2=>h2 p C dx fvs e1 ?_⟩
  rw [← k j c2 p (S.obp e e1)]
  exact e2
def frz (i:Nat) (δ:List Sl):List Sl:=match δ[i]? with
 | some (.ow d)=>δ.set i (.fz d)
 | _=>δ
theorem SR.wipe1 (S:SR K Y F H δ σ A) (hi:i < δ.length) (hio:Y.io i = false):SR K Y F H (δ.set i .no) σ (uA A i []):=by
 have w:=S.putNo (v:=jn σ[i]?) hi hio
 have e:σ.set i (jn σ[i]?) = σ:=by
  have hs:i < σ.length:=by rw [← S.len]; exact hi
  apply List.ext_getElem?
  intro j
  by_cases c:j = i
  ·subst c
   rw [Qp hs,Q6 hs]
   rfl
  ·rw [Qk (Ne.symm c)]
 rwa [e] at w
end
inductive Out where
 | nx (δ:List Sl)
 | ct (δ:List Sl)
 | rt (d:D) (δ:List Sl)
def QbH (K:PySem.W.Frag) (Y:Fx) (fr:Fr) (F H:Hp) (A:Nat → List Addr) (v:V) (d:D):Prop :=
 match fr with
 | .n=>Rp K F v d
 | .t=>PlT K F v d
 | .l=>∃ p,v = .ref p ∧ Y.H0 p = none ∧ F p = none ∧ (∀ i,Y.io i = true → p ∉ A i) ∧ Kc K F H p d
 | .p=>∃ a p q d0 d1,v = .ref a ∧ d = .tuple [d0,d1] ∧ H a = some (.tup [.ref p,.ref q]) ∧ p ≠ q ∧ (Y.H0 p = none ∧ F p = none ∧ (∀ i,Y.io i = true → p ∉ A i) ∧ Kc K F H p d0) ∧ Y.H0 q = none ∧ F q = none ∧ (∀ i,Y.io i = true → q ∉ A i) ∧ Kc K F H q d1
 | .s j=>d = .none ∧ Y.io j = true ∧ ∃ p,v = .ref p ∧ A j = [p]
def Q6x (K:PySem.W.Frag) (Y:Fx) (fr:Fr) (F:Hp) (D:Ends):Out → Prop
 | .nx δ'=>∀ σ' F' H' A',Same F F' → SR K Y F' H' δ' σ' A' → D.nx σ' H'
 | .ct δ'=>∀ σ' F' H' A',Same F F' → SR K Y F' H' δ' σ' A' → D.ct σ' H'
 | .rt d δ'=>∀ v σ' F' H' A',Same F F' → SR K Y F' H' δ' σ' A' → QbH K Y fr F' H' A' v d → D.rt v H'
def SV (X:Cx) (io:Iom) (fr:Fr) (st:Stmt) (g:List Sl → Option Out):Prop :=
 ∃ t,PS X st t ∧ ∀ (Y:Fx) (F H:Hp) (δ:List Sl) (σ:L2.St) (A:Nat → List Addr),Y.io = io → SR X.K Y F H δ σ A → ∀ (o:Out),g δ = some o → ∀ D:Ends,Q6x X.K Y fr F D o → t D σ H
def BV (X:Cx) (io:Iom) (fr:Fr) (st:List Stmt) (g:List Sl → Option Out):Prop :=
 ∃ t,PSs X st t ∧ ∀ (Y:Fx) (F H:Hp) (δ:List Sl) (σ:L2.St) (A:Nat → List Addr),Y.io = io → SR X.K Y F H δ σ A → ∀ (o:Out),g δ = some o → ∀ D:Ends,Q6x X.K Y fr F D o → t D σ H
theorem Q6x.mono {K:PySem.W.Frag} {Y:Fx} {fr:Fr} {F F':Hp} {D:Ends} {o:Out} (h:Q6x K Y fr F D o) (s:Same F F'):Q6x K Y fr F' D o:=by
 cases o with
 | nx δ=>exact fun σ' F1 H' A' s1=>h σ' F1 H' A' (s.trans s1)
 | ct δ=>exact fun σ' F1 H' A' s1=>h σ' F1 H' A' (s.trans s1)
 | rt d δ=>exact fun v σ' F1 H' A' s1=>h v σ' F1 H' A' (s.trans s1)
section
variable {X:Cx} {io:Iom} {fr:Fr} {st:Stmt} {rest:List Stmt} {pos:Pos} {g g':List Sl → Option Out}
def Xb (g g':List Sl → Option Out):List Sl → Option Out:=fun δ=>(g δ).bind fun o=>match o with
 | .nx δ1=>g' δ1
 | .ct δ1=>some (.ct δ1)
 | .rt d δ1=>some (.rt d δ1)
def Xe:List Sl → Option Out:=fun δ=>some (.nx δ)
theorem Xu:BV X io fr [] Xe:=by
 refine ⟨_,pss_nil,fun Y F H δ σ A _ S o e D k=>?_⟩
 cases e
 exact k σ F H A (Same.refl _) S
theorem Xc (h1:SV X io fr st g) (h2:BV X io fr rest g'):BV X io fr (st :: rest) (Xb g g'):=by
 obtain ⟨t,p,q⟩:=h1
 obtain ⟨t2,p2,q2⟩:=h2
 refine ⟨_,pss_cons p p2,fun Y F H δ σ A hY S o e D k=>?_⟩
 unfold Xb at e
 cases e1:g δ with
 | none=>rw [e1] at e; cases e
 | some o1 =>
  rw [e1] at e
  refine q Y F H δ σ A hY S o1 e1 _ ?_
  cases o1 with
  | nx δ1=>exact fun σ' F' H' A' s S'=>q2 Y F' H' δ1 σ' A' hY S' o e D (k.mono s)
  | ct δ1=>cases e; exact k
  | rt d δ1=>cases e; exact k
def Xg (vs:List Nat) (δ:List Sl):List Sl:=vs.foldr (fun j δ=>δ.set j .no) δ
theorem SR.wipeAll {K:PySem.W.Frag} {Y:Fx} {F H:Hp} {σ:L2.St}:∀ {vs:List Nat} {δ:List Sl} {A:Nat → List Addr},SR K Y F H δ σ A → (∀ i ∈ vs,Y.io i = false) → ∃ A',SR K Y F H (Xg vs δ) σ A'
 | [],δ,A,S,_=>⟨A,S⟩
 | i :: vs,δ,A,S,h=>by
  obtain ⟨A',S'⟩:=SR.wipeAll (vs:=vs) S fun j hj=>h j (Qb _ hj)
  by_cases c:i < (Xg vs δ).length
  ·exact ⟨_,S'.wipe1 c (h i Qe)⟩
  ·refine ⟨A',?_⟩
   show SR K Y F H ((Xg vs δ).set i .no) σ A'
   rw [List.set_eq_of_length_le (by omega)]
   exact S'
def Q8w (vs:List Nat) (g:List Sl → Option Out):List Sl → Option Out:=fun δ=>g (Xg vs δ)
theorem Q6V {vs:List Nat} (hio:vs.all (fun i=>!io i) = true) (h:SV X io fr st g):SV X io fr st (Q8w vs g):=by
 obtain ⟨t,p,q⟩:=h
 refine ⟨_,p,fun Y F H δ σ A hY S o e D k=>?_⟩
 obtain ⟨A',S'⟩:=S.wipeAll (vs:=vs) fun i hi=>by
  rw [hY]
  have:=Qh.mp hio i hi
  simpa using this
 exact q Y F H _ σ A' hY S' o e D k
def Q1G (vs:List Nat):List Sl → Option Out:=fun δ=>some (.nx (Xg vs δ))
theorem Q5v {vs:List Nat} (hio:vs.all (fun i=>!io i) = true):BV X io fr [] (Q1G vs):=by
 refine ⟨_,pss_nil,fun Y F H δ σ A hY S o e D k=>?_⟩
 obtain ⟨A',S'⟩:=S.wipeAll (vs:=vs) fun i hi=>by
  rw [hY]
  have:=Qh.mp hio i hi
  simpa using this
 cases e
 exact k σ F H A' (Same.refl _) S'
def Yv (i:Nat) (f:List Sl → Option (D × List Sl)):List Sl → Option Out:=fun δ=>(f δ).bind fun p=>if i < p.2.length then some (.nx (p.2.set i (.fz p.1))) else none
def Q2M (i:Nat) (f:List Sl → Option (D × List Sl)):List Sl → Option Out:=fun δ=>(f δ).bind fun p=>if i < p.2.length then some (.nx (p.2.set i (.ow p.1))) else none
structure Tg (X:Cx) (i:Nat) (x:Str):Prop where
 nd:X.N.Nodup
 at_:X.N[i]? = some x
 loc:Loc X.env.scope x
 fn:X.fn x = true ∨ X.env.scope.names.lookup x = some .local
theorem V3 {i:Nat} {x:Str} {e:Expr} {f} {M:List Nat} {pos':Pos} (hio:io i = false) (T:Tg X i x) (h:EV X e f [] M) (hs:swapsWith e (some (.Name x pos')) pos.line X.env = pure false:=by rfl):SV X io fr (.Assign [.Name x pos'] e pos) (Yv i f):=by
 obtain ⟨t,p,q⟩:=h
 refine ⟨_,ps_set T.nd T.at_ T.loc p hs T.fn,fun Y F H δ σ A hY S o e D k=>?_⟩
 unfold Yv at e
 cases e1:f δ with
 | none=>rw [e1] at e; cases e
 | some p =>
  obtain ⟨d,δ1⟩:=p
  rw [e1] at e
  simp only [Q1] at e
  split at e
  ·rename_i hi
   cases e
   refine q Y F H δ σ A S d δ1 e1 _ fun v F1 H1 st S1 r=>?_
   exact k _ F1 H1 _ st.f (S1.putFz hi (by rw [hY]; exact hio) r.nil)
  ·cases e
theorem Qas {i:Nat} {x:Str} {e:Expr} {f} {M:List Nat} {pos':Pos} (hio:io i = false) (T:Tg X i x) (h:NV X e f M) (hs:swapsWith e (some (.Name x pos')) pos.line X.env = pure false:=by rfl):SV X io fr (.Assign [.Name x pos'] e pos) (Q2M i f):=by
 obtain ⟨t,p,q⟩:=h
 refine ⟨_,ps_set T.nd T.at_ T.loc p hs T.fn,fun Y F H δ σ A hY S o e D k=>?_⟩
 unfold Q2M at e
 cases e1:f δ with
 | none=>rw [e1] at e; cases e
 | some p =>
  obtain ⟨d,δ1⟩:=p
  rw [e1] at e
  simp only [Q1] at e
  split at e
  ·rename_i hi
   cases e
   refine q Y F H δ σ A S d δ1 e1 _ fun p F1 H1 st S1 n hF r=>?_
   exact k _ F1 H1 _ st.f (S1.putOw hi (by rw [hY]; exact hio) (S.fresh0 n) hF (fun j hj=>S.isSome hj n) r)
  ·cases e
def Ym (f:List Sl → Option (D × List Sl)):List Sl → Option Out:=fun δ=>(f δ).map fun p=>.rt p.1 p.2
theorem Ya {e:Expr} {f} {M:List Nat} (h:EV X e f [] M):SV X io .n (.Return (some e) pos) (Ym f):=by
 obtain ⟨t,p,q⟩:=h
 refine ⟨_,ps_ret p,fun Y F H δ σ A hY S o e D k=>?_⟩
 unfold Ym at e
 cases e1:f δ with
 | none=>rw [e1] at e; cases e
 | some p =>
  obtain ⟨d,δ1⟩:=p
  rw [e1] at e
  cases e
  exact q Y F H δ σ A S d δ1 e1 _ fun v F1 H1 st S1 r=>k v σ F1 H1 A st.f S1 r.nil
theorem Q8H {e:Expr} {f} {M:List Nat} (h:NV X e f M):SV X io .l (.Return (some e) pos) (Ym f):=by
 obtain ⟨t,p,q⟩:=h
 refine ⟨_,ps_ret p,fun Y F H δ σ A hY S o e D k=>?_⟩
 unfold Ym at e
 cases e1:f δ with
 | none=>rw [e1] at e; cases e
 | some p =>
  obtain ⟨d,δ1⟩:=p
  rw [e1] at e
  cases e
  exact q Y F H δ σ A S d δ1 e1 _ fun p F1 H1 st S1 n hF r=>k _ σ F1 H1 A st.f S1 ⟨p,rfl,S.fresh0 n,hF,fun i _ z=>S.isSome z n,r⟩
def Q68 (f:List Sl → Option (D × List Sl)):List Sl → Option Out:=fun δ=>(f δ).map fun p=>.nx p.2
theorem Qa6 {e:Expr} {f} {R M:List Nat} (h:EV X e f R M) (hs:swapsWith e none pos.line X.env = pure false:=by rfl):SV X io fr (.Expr e pos) (Q68 f):=by
 obtain ⟨t,p,q⟩:=h
 refine ⟨_,ps_expr p hs,fun Y F H δ σ A hY S o e D k=>?_⟩
 unfold Q68 at e
 cases e1:f δ with
 | none=>rw [e1] at e; cases e
 | some p =>
  obtain ⟨d,δ1⟩:=p
  rw [e1] at e
  cases e
  exact q Y F H δ σ A S d δ1 e1 _ fun v F1 H1 st S1 r=>k σ F1 H1 A st.f S1
def sIf (c:List Sl → Option (Bool × List Sl)) (g g':List Sl → Option Out):List Sl → Option Out:=fun δ=>(c δ).bind fun p=>match p.1 with | true=>g p.2 | false=>g' p.2
theorem Q24 {c:Expr} {a b:List Stmt} {gc} {M:List Nat} (hc:TV X c gc M) (ha:BV X io fr a g) (hb:BV X io fr b g'):SV X io fr (.If c a b pos) (sIf gc g g'):=by
 obtain ⟨t,p,q⟩:=hc
 obtain ⟨ta,pa,qa⟩:=ha
 obtain ⟨tb,pb,qb⟩:=hb
 refine ⟨_,ps_if p pa pb,fun Y F H δ σ A hY S o e D k=>?_⟩
 unfold sIf at e
 cases e1:gc δ with
 | none=>rw [e1] at e; cases e
 | some p =>
  obtain ⟨b1,δ1⟩:=p
  rw [e1] at e
  refine q Y F H δ σ A S b1 δ1 e1 _ fun F1 H1 st S1=>?_
  cases b1 with
  | true=>exact iteT (qa Y F1 H1 δ1 σ A hY S1 o e D (k.mono st.f))
  | false=>exact iteF (qb Y F1 H1 δ1 σ A hY S1 o e D (k.mono st.f))
end
end Z
namespace Z
open PySem PySem.Spec PyProof.Rows L2
section
variable {X:Cx} {pos:Pos}
structure Mc (X:Cx) (o:Expr) (name:Str) (apos:Pos) (e:Expr) (es:List Expr) (cpos:Pos):Prop where
 base:attributeBase o name X.env (eval o X.env) = eval o X.env
 few:((backTo cpos (starEach (e :: es) X.env)).all (fun x=>!x.1) && (backToKw cpos (keywordEach [] X.env)).all (fun x=>x.1.isSome) && decide ((e :: es).length + ([]:List Keyword).length + (if ([]:List Keyword).isEmpty then 0 else 1) < 30)) = true
 line:(apos.endLine == cpos.line) = true
 star:starEach (e :: es) X.env = (false,eval e X.env) :: starEach es X.env
 plain:(backTo cpos (starEach es X.env)).any (·.1) = false
structure Mc0 (X:Cx) (o:Expr) (name:Str) (apos:Pos) (cpos:Pos):Prop where
 base:attributeBase o name X.env (eval o X.env) = eval o X.env
 line:(apos.endLine == cpos.line) = true
structure Nm (X:Cx) (i:Nat) (x:Str):Prop where
 at_:X.N[i]? = some x
 vis:Vis X.env.scope x
 db:(x == ("__debug__":Str)) = false
 cd:(x == ("__classdict__":Str)) = false
theorem Nm.pe {i:Nat} {x:Str} (n:Nm X i x):PE X (.Name x pos) (tVar i):=pe_var n.at_ n.vis n.db n.cd
theorem tyL {K:PySem.W.Frag} {H:Hp} {p:Addr} {xs:List V} (h:H p = some (.lst xs)):tyV K "list" (.ref p) H:=.inl ⟨rfl,xs,SqL.of h⟩
theorem Rps.dropLast {K:PySem.W.Frag} {G:Hp} {xs:List V} {ds:List D} (h:Rps K G xs ds):Rps K G xs.dropLast ds.dropLast:=by
 rw [List.dropLast_eq_take,List.dropLast_eq_take,h.length]
 exact h.take _
def Qad (ds:List (D × D)) (k:Key) (d:D):List (D × D):=if ds.any (fun p=>decide (W1 p.1 = some k)) then ds.map (fun p=>if W1 p.1 = some k then (p.1,d) else p) else ds ++ [(Q2N k,d)]
theorem RpK.length {K:PySem.W.Frag} {G:Hp}:∀ {kvs:List (Key × V)} {ds:List (D × D)},RpK K G kvs ds → kvs.length = ds.length
 | _,_,.nil=>rfl
 | _,_,.cons _ r=>congrArg (· + 1) r.length
theorem RpK.append {K:PySem.W.Frag} {G:Hp}:∀ {kvs lws:List (Key × V)} {ds es:List (D × D)},RpK K G kvs ds → RpK K G lws es → RpK K G (kvs ++ lws) (ds ++ es)
 | _,_,_,_,.nil,s=>s
 | _,_,_,_,.cons h r,s=>.cons h (r.append s)
theorem RpK.any {K:PySem.W.Frag} {G:Hp} (k:Key):∀ {kvs:List (Key × V)} {ds:List (D × D)},RpK K G kvs ds → (kvs.any fun kv=>decide (kv.1 = k)) = ds.any fun p=>decide (W1 p.1 = some k)
 | _,_,.nil=>rfl
 | _,_,.cons (k:=k0) h r=>by
  rw [List.any_cons,List.any_cons,r.any k,Xy]
  by_cases e:k0 = k <;> simp [e]
theorem RpK.repl {K:PySem.W.Frag} {G:Hp} (k:Key) {v:V} {d:D} (hv:Rp K G v d):∀ {kvs:List (Key × V)} {ds:List (D × D)},RpK K G kvs ds → RpK K G (kvs.map fun kv=>if kv.1 = k then (kv.1,v) else kv) (ds.map fun p=>if W1 p.1 = some k then (p.1,d) else p)
 | _,_,.nil=>.nil
 | _,_,.cons (k:=k0) h r=>by
  rw [Qq,Qq]
  simp only [Xy]
  by_cases e:k0 = k
  ·rw [if_pos e,if_pos (congrArg some e)]
   exact .cons hv (r.repl k hv)
  ·rw [if_neg e,if_neg fun z=>e (Qs.inj z)]
   exact .cons h (r.repl k hv)
theorem RpK.put {K:PySem.W.Frag} {G:Hp} {kvs:List (Key × V)} {ds:List (D × D)} (k:Key) {v:V} {d:D} (h:RpK K G kvs ds) (hv:Rp K G v d):RpK K G (putK kvs k v) (Qad ds k d):=by
 unfold putK Qad
 rw [← h.any k]
 split
 ·exact h.repl k hv
 ·exact h.append (.cons hv .nil)
def QbX:TSet:=fun o i v H Q=>rSetL o i v H Q ∨ ∃ a H',o = .ref a ∧ DPut H a i v H' ∧ Q H'
theorem Qbx (hu:X.A.units + 1 < cLine):PSet X QbX:=by
 intro pins s σ H o i v ov iv u Q I ro ri rv h
 rcases h with h | ⟨a,H',rfl,g,q⟩
 ·exact set_list pins s σ H o i v ov iv u Q I ro ri rv h
 ·cases ro
  exact d_setItem hu I g ri rv fun s' I'=>⟨H',I',q⟩
structure Pc (X:Cx) (o i:Expr) (v:Expr) (tpos:Pos) (line:Nat):Prop where
 sw:swapsWithSole [.Subscript o i tpos] v line X.env = pure false
 st:swappedStores [.Subscript o i tpos] v X.env = pure none
 ea:(assignEach [.Subscript o i tpos] X.env).map (·.2) = [assign (.Subscript o i tpos) X.env]
 as:∀ u,assign (.Subscript o i tpos) X.env u = (do
   let ov ← holding [u] (eval o X.env)
   let iv ← holding [u,ov] (eval i X.env)
   standAt tpos
   holding [u,ov,iv] (setItem ov iv u)
   release [u,ov,iv] [])
end
end Z
namespace Z
open PySem PySem.Spec PyProof.Rows L2
inductive Tt where
 | nm (i:Nat)
 | nil
 | cons (a b:Tt)
mutual
/-- a target takes a datum -/
def Xp:Tt → D → List Sl → Option (List Sl)
 | .nm i,d,δ=>if i < δ.length then some (δ.set i (.fz d)) else none
 | .nil,d,δ=>match d with
  | .tuple ds=>Xj .nil ds δ
  | _=>none
 | .cons a b,d,δ=>match d with
  | .tuple ds=>Xj (.cons a b) ds δ
  | _=>none
def Xj:Tt → List D → List Sl → Option (List Sl)
 | .nil,[],δ=>some δ
 | .cons a b,d :: ds,δ=>(Xp a d δ).bind fun δ1=>Xj b ds δ1
 | _,_,_=>none
end
mutual
theorem Kp:∀ {T:Tt} {d:D} {δ δ':List Sl},Xp T d δ = some δ' → δ'.length = δ.length
 | .nm i,d,δ,δ',h=>by
  unfold Xp at h
  split at h
  ·cases h
   rw [Jl]
  ·cases h
 | .nil,d,δ,δ',h=>by
  unfold Xp at h
  cases d with
  | tuple ds=>exact Wz h
  | _=>cases h
 | .cons a b,d,δ,δ',h=>by
  unfold Xp at h
  cases d with
  | tuple ds=>exact Wz h
  | _=>cases h
theorem Wz:∀ {T:Tt} {ds:List D} {δ δ':List Sl},Xj T ds δ = some δ' → δ'.length = δ.length
 | .nm i,ds,δ,δ',h=>by
  unfold Xj at h
  cases h
 | .nil,[],δ,δ',h=>by
  unfold Xj at h
  cases h
  rfl
 | .nil,_ :: _,δ,δ',h=>by
  unfold Xj at h
  cases h
 | .cons a b,[],δ,δ',h=>by
  unfold Xj at h
  cases h
 | .cons a b,d :: ds,δ,δ',h=>by
  unfold Xj at h
  cases e:Xp a d δ with
  | none=>rw [e] at h; cases h
  | some δ1 =>
   rw [e] at h
   rw [Wz (T:=b) h,Kp e]
end
def tS:Tt → List Nat
 | .nm i=>[i]
 | .nil=>[]
 | .cons a b=>tS a ++ tS b
structure But (l:List Nat) (σ σ':L2.St) (A A':Nat → List Addr):Prop where
 s:∀ j,j ∉ l → σ'[j]? = σ[j]?
 a:∀ j,j ∉ l → A' j = A j
 e:∀ j,j ∈ l → A' j = []
theorem But.trans {l m:List Nat} {σ σ1 σ2:L2.St} {A A1 A2:Nat → List Addr} (h:But l σ σ1 A A1) (h':But m σ1 σ2 A1 A2):But (l ++ m) σ σ2 A A2:=by
 refine ⟨fun j hj=>?_,fun j hj=>?_,fun j hj=>?_⟩
 ·simp only [Qj,not_or] at hj
  rw [h'.s j hj.2,h.s j hj.1]
 ·simp only [Qj,not_or] at hj
  rw [h'.a j hj.2,h.a j hj.1]
 ·by_cases c:j ∈ m
  ·exact h'.e j c
  ·rw [h'.a j c]
   exact h.e j ((Qj.mp hj).resolve_right c)
section
variable {X:Cx} {io:Iom}
def GV (X:Cx) (e:Expr) (T:Tt):Prop :=
 ∃ g,PG X e g ∧ ∀ (Y:Fx) (F H:Hp) (δ:List Sl) (σ:L2.St) (A:Nat → List Addr),(∀ j ∈ tS T,Y.io j = false) → SR X.K Y F H δ σ A → ∀ (x:V) (d:D) (δ':List Sl),Rp X.K F x d → Xp T d δ = some δ' → ∀ Q:L2.St → Hp → Prop,(∀ σ' A',But (tS T) σ σ' A A' → SR X.K Y F H δ' σ' A' → Q σ' H) → g x σ H Q
def GsV (X:Cx) (es:List Expr) (T:Tt):Prop :=
 ∃ g,PGs X es g ∧ ∀ (Y:Fx) (F H:Hp) (δ:List Sl) (σ:L2.St) (A:Nat → List Addr),(∀ j ∈ tS T,Y.io j = false) → SR X.K Y F H δ σ A → ∀ (xs:List V) (ds:List D) (δ':List Sl),Rps X.K F xs ds → Xj T ds δ = some δ' → ∀ Q:L2.St → Hp → Prop,(∀ σ' A',But (tS T) σ σ' A A' → SR X.K Y F H δ' σ' A' → Q σ' H) → g xs σ H Q
theorem Yq {i:Nat} {x:Str} {pos:Pos} (T:Tg X i x):GV X (.Name x pos) (.nm i):=by
 refine ⟨_,pg_name T.nd T.at_ T.loc T.fn,fun Y F H δ σ A hY S x d δ' r e Q k=>?_⟩
 unfold Xp at e
 split at e
 ·rename_i hi
  cases e
  refine k _ _ ⟨fun j hj=>?_,fun j hj=>?_,fun j hj=>?_⟩ (S.putFz hi (hY i (by simp [tS])) r)
  ·rw [Qk fun c=>hj (by simp [tS,c])]
  ·exact Kz fun c=>hj (by simp [tS,c])
  ·simp [tS] at hj
   subst hj
   exact Q04
 ·cases e
theorem Q59:GsV X [] .nil:=by
 refine ⟨_,pgs_nil,fun Y F H δ σ A hY S xs ds δ' r e Q k=>?_⟩
 cases r with
 | nil =>
  unfold Xj at e
  cases e
  exact ⟨rfl,k _ _ ⟨fun _ _=>rfl,fun _ _=>rfl,fun j hj=>by simp [tS] at hj⟩ S⟩
 | cons _ _ =>
  unfold Xj at e
  cases e
theorem Q11 {a:Expr} {es:List Expr} {T U:Tt} (h1:GV X a T) (h2:GsV X es U) (hs:(assignEach (a :: es) X.env).map (·.2) = assign a X.env :: (assignEach es X.env).map (·.2):=by rfl):GsV X (a :: es) (.cons T U):=by
 obtain ⟨g,p,q⟩:=h1
 obtain ⟨g2,p2,q2⟩:=h2
 refine ⟨_,pgs_cons p p2 hs,fun Y F H δ σ A hY S xs ds δ' r e Q k=>?_⟩
 cases r with
 | nil =>
  unfold Xj at e
  cases e
 | cons h r =>
  rename_i v vs d ds
  unfold Xj at e
  cases e1:Xp T d δ with
  | none=>rw [e1] at e; cases e
  | some δ1 =>
   rw [e1] at e
   exact ⟨v,vs,rfl,q Y F H δ σ A (fun j hj=>hY j (Q7 _ hj)) S v d δ1 h e1 _ fun σ' A' b S'=>q2 Y F H δ1 σ' A' (fun j hj=>hY j (Q8 _ hj)) S' vs ds δ' r e Q fun σ2 A2 b2 S2=>k σ2 A2 (b.trans b2) S2⟩
theorem QaI {es:List Expr} {k:Nat} {pos:Pos} {T:Tt} {n:Nat} (hc:X.calm = true) (h:GsV X es T) (hT:∀ i,T ≠ .nm i) (hn:(assignEach es X.env).length = n) (hlen:∀ ds δ δ',Xj T ds δ = some δ' → ds.length = n) (hst:(assignEach es X.env).findIdx? (·.1) = none:=by rfl):GV X (.Tuple es k pos) T:=by
 obtain ⟨g,p,q⟩:=h
 refine ⟨_,pg_tup hc p hn hst,fun Y F H δ σ A hY S x d δ' r e Q k=>?_⟩
 have e2:∃ ds,d = .tuple ds ∧ Xj T ds δ = some δ':=by
  cases T with
  | nm i=>exact absurd rfl (hT i)
  | nil =>
   unfold Xp at e
   cases d with
   | tuple ds=>exact ⟨ds,rfl,e⟩
   | _=>cases e
  | cons a b =>
   unfold Xp at e
   cases d with
   | tuple ds=>exact ⟨ds,rfl,e⟩
   | _=>cases e
 obtain ⟨ds,rfl,e2⟩:=e2
 cases r with
 | tup h1 r1 =>
  exact ⟨_,_,rfl,Same.sqt S.sub h1,by rw [r1.length]; exact hlen _ _ _ e2,q Y F H δ σ A hY S _ ds δ' r1 e2 Q k⟩
def Yd (K:PySem.W.Frag) (G H:Hp) (x:V) (H':Hp) (d:D):Prop :=
 (H' = H ∧ Rp K G x d) ∨ ∃ T xs es,H T = none ∧ H' = upd H T (.tup xs) ∧ x = .ref T ∧ d = .tuple es ∧ Rps K G xs es
structure Wk (K:PySem.W.Frag) (G E:Hp) (J:It) (ds:List D):Prop where
 go:∀ i H,i < ds.length → Same E H → J.go i H
 yld:∀ i H x H' d,Same E H → J.yld i H x H' → ds[i]? = some d → Yd K G H x H' d
 stop:∀ H,Same E H → J.stop ds.length H
def IV (X:Cx) (tg iter:Expr) (f:List Sl → Option (List D × List Sl)) (R M:List Nat):Prop :=
 ∃ wi,PI X tg iter wi ∧ ∀ (Y:Fx) (F H:Hp) (δ:List Sl) (σ:L2.St) (A:Nat → List Addr),SR X.K Y F H δ σ A → ∀ (ds:List D) (δ':List Sl),f δ = some (ds,δ') → ∀ Q:It → Hp → Prop,
  (∀ J F' H',Stp A M F H F' H' → SR X.K Y F' H' δ' σ A → Wk X.K F' (ex R A F' H') J ds → Q J H') → wi σ H Q
theorem PI.or {tg iter:Expr} {w1 w2:TI} (h1:PI X tg iter w1) (h2:PI X tg iter w2):PI X tg iter (fun σ H R=>w1 σ H R ∨ w2 σ H R) :=
 ⟨fun pins s σ H R I h=>h.elim (h1.run pins s σ H R I) (h2.run pins s σ H R I)⟩
def Q0p:D → Option (List D)
 | .list ds=>some ds
 | .tuple ds=>some ds
 | .str z=>some (z.cps.toList.map fun c=>.str ⟨#[c]⟩)
 | .dict ds=>some (ds.map (·.1))
 | _=>none
def fIt (fa:List Sl → Option (D × List Sl)):List Sl → Option (List D × List Sl):=fun δ=>(fa δ).bind fun p=>(Q0p p.1).map fun ds=>(ds,p.2)
theorem Vw.listE {K:PySem.W.Frag} {Y:Fx} {F H:Hp} {δ:List Sl} {σ:L2.St} {A:Nat → List Addr} {R:List Nat} {v:V} {ds:List D} (S:SR K Y F H δ σ A) (h:Vw K F H A R v (.list ds)):∃ p xs,v = .ref p ∧ Z.ex R A F H p = some (.lst xs) ∧ Rps K F xs ds:=by
 rcases h with h | ⟨i,hi,p,e,eA,o⟩
 ·cases h with
  | lst h1 r=>exact ⟨_,_,rfl,Q1i S _ _ h1,r⟩
 ·obtain ⟨xs,h1,r⟩:=o
  exact ⟨p,xs,e,(if_pos ⟨i,hi,by rw [eA]; simp⟩:Z.ex R A F H p = H p).trans h1,r⟩
theorem Q8W {K:PySem.W.Frag} {G E:Hp} {a:Addr} {xs:List V} {ds:List D} (h:E a = some (.lst xs)) (r:Rps K G xs ds):Wk K G E (Itl K a) ds:=by
 refine ⟨fun i H hi s=>?_,fun i H x H' d s y e=>?_,fun H s=>?_⟩
 ·have:i < xs.length:=by rw [r.length]; exact hi
  exact ⟨xs,xs[i],SqL.of (s _ _ h),Q6 this⟩
 ·obtain ⟨rfl,f⟩:=y
  obtain ⟨v,v1,v2⟩:=r.get e
  have:=f xs (SqL.of (s _ _ h))
  rw [v1] at this
  cases this
  exact .inl ⟨rfl,v2⟩
 ·exact ⟨xs,SqL.of (s _ _ h),by rw [r.length]; exact Jb _⟩
theorem Qaz {K:PySem.W.Frag} {G E:Hp} {a:Addr} {xs:List V} {ds:List D} (h:SqT K E a xs) (r:Rps K G xs ds):Wk K G E (Itt K a) ds:=by
 refine ⟨fun i H hi s=>?_,fun i H x H' d s y e=>?_,fun H s=>?_⟩
 ·have:i < xs.length:=by rw [r.length]; exact hi
  exact ⟨xs,xs[i],Same.sqt s h,Q6 this⟩
 ·obtain ⟨rfl,f⟩:=y
  obtain ⟨v,v1,v2⟩:=r.get e
  have:=f xs (Same.sqt s h)
  rw [v1] at this
  cases this
  exact .inl ⟨rfl,v2⟩
 ·exact ⟨xs,Same.sqt s h,by rw [r.length]; exact Jb _⟩
theorem Qae {K:PySem.W.Frag} {G E:Hp} {z:Str}:Wk K G E (Its z) (z.cps.toList.map fun c=>.str ⟨#[c]⟩):=by
 refine ⟨fun i H hi s=>?_,fun i H x H' d s y e=>?_,fun H s=>?_⟩
 ·simpa [Its] using hi
 ·obtain ⟨rfl,c,h1,rfl⟩:=y
  rw [Qd,Array.getElem?_toList,h1] at e
  cases e
  exact .inl ⟨rfl,.str _⟩
 ·show z.cps.size ≤ _
  simp
theorem RpK.key {K:PySem.W.Frag} {G:Hp}:∀ {kvs:List (Key × V)} {ds:List (D × D)} {i:Nat} {d:D},RpK K G kvs ds → (ds.map (·.1))[i]? = some d → ∃ k v,kvs[i]? = some (k,v) ∧ d = Q2N k
 | _,_,_,_,.nil,e=>by simp at e
 | _,_,0,_,.cons h r,e=>by simp at e; subst e; exact ⟨_,_,rfl,rfl⟩
 | _,_,i + 1,d,.cons h r,e=>by
  obtain ⟨k,v,h1,h2⟩:=RpK.key (i:=i) (d:=d) r (by simpa using e)
  exact ⟨k,v,by simpa using h1,h2⟩
theorem Q8D {K:PySem.W.Frag} {G:Hp}:∀ (k:Key),Rp K G (kV k) (Q2N k)
 | .inl i=>.int i
 | .inr x=>.str x
theorem RpK.len {K:PySem.W.Frag} {G:Hp}:∀ {kvs:List (Key × V)} {ds:List (D × D)},RpK K G kvs ds → kvs.length = ds.length
 | _,_,.nil=>rfl
 | _,_,.cons _ r=>congrArg (· + 1) r.len
theorem Q9r {K:PySem.W.Frag} {G E:Hp} {a:Addr} {o:Obj} {kvs:List (Key × V)} {ds:List (D × D)} (h:E a = some (.frz o (.dK kvs))) (r:RpK K G kvs ds):Wk K G E (Itk a o kvs) (ds.map (·.1)):=by
 have hl:=r.len
 refine ⟨fun i H hi s=>?_,fun i H x H' d s y e=>?_,fun H s=>?_⟩
 ·exact ⟨s _ _ h,by rw [hl]; simpa using hi⟩
 ·obtain ⟨rfl,k,v,h1,rfl⟩:=y
  obtain ⟨k',v',h2,rfl⟩:=r.key e
  rw [h1] at h2
  cases h2
  exact .inl ⟨rfl,Q8D _⟩
 ·exact ⟨s _ _ h,by rw [hl]; simp⟩
theorem Q1e {tg iter:Expr} {fa} {R M:List Nat} (h:EV X iter fa R M):IV X tg iter (fIt fa) R M:=by
 obtain ⟨t,p,q⟩:=h
 refine ⟨_,PI.or (pi_list p) (PI.or (pi_tup p) (PI.or (pi_str p) (pi_keys p))),fun Y F H δ σ A S ds δ' e Q k=>?_⟩
 unfold fIt at e
 cases e1:fa δ with
 | none=>rw [e1] at e; cases e
 | some w =>
  obtain ⟨d,δ1⟩:=w
  rw [e1] at e
  simp only [Q1] at e
  unfold Q0p at e
  split at e
  ·cases e
   refine .inl (q Y F H δ σ A S _ _ e1 _ fun v F1 H1 st S1 r=>?_)
   obtain ⟨a,xs,rfl,h1,h2⟩:=r.listE S1
   exact ⟨a,rfl,⟨xs,SqL.of (Q0k S1 _ _ h1)⟩,k _ F1 H1 st S1 (Q8W h1 h2)⟩
  ·cases e
   refine .inr (.inl (q Y F H δ σ A S _ _ e1 _ fun v F1 H1 st S1 r=>?_))
   obtain ⟨a,xs,rfl,h0,h1,h2⟩:=r.tup S1
   exact ⟨a,rfl,⟨xs,h1⟩,k _ F1 H1 st S1 (Qaz (Same.sqt (Q1i S1) h0) h2)⟩
  ·cases e
   refine .inr (.inr (.inl (q Y F H δ σ A S _ _ e1 _ fun v F1 H1 st S1 r=>?_)))
   exact ⟨_,r.str,k _ F1 H1 st S1 Qae⟩
  ·cases e
   refine .inr (.inr (.inr (q Y F H δ σ A S _ _ e1 _ fun v F1 H1 st S1 r=>?_)))
   have r':=r.ex S1
   cases r' with
   | dic h1 r2 =>
    obtain ⟨p',o',kvs',e3,h3,r3⟩:=r.dict S1
    cases e3
    rw [Q0k S1 _ _ h1] at h3
    cases h3
    exact ⟨_,_,rfl,.inl ⟨_,Q0k S1 _ _ h1,k _ F1 H1 st S1 (Q9r h1 r3)⟩⟩
  ·cases e
def Q2H (lo:Int) (n:Nat):List D:=(Jn n).map fun i=>.int (lo + (i:Nat))
theorem Q1w {lo:Int} {n:Nat}:(Q2H lo n).length = n:=by simp [Q2H]
theorem Q7w {K:PySem.W.Frag} {G E:Hp} {lo:Int} {n:Nat}:Wk K G E (Itr lo n) (Q2H lo n):=by
 refine ⟨fun i H hi s=>?_,fun i H x H' d s y e=>?_,fun H s=>?_⟩
 ·rw [Q1w] at hi
  exact hi
 ·obtain ⟨rfl,rfl⟩:=y
  unfold Q2H at e
  rw [Qd] at e
  cases e1:(Jn n)[i]? with
  | none=>rw [e1] at e; cases e
  | some j =>
   rw [e1] at e
   have:j = i:=by
    have:=Q5.mp e1
    obtain ⟨_,h⟩:=this
    simpa using h.symm
   subst this
   cases e
   exact .inl ⟨rfl,.int _⟩
 ·rw [Q1w]
  exact Jb _
def V1 (i:Int):Bool:=decide (-(2 ^ 62) ≤ i) && decide (i < 2 ^ 62)
def Q1f (f:List Sl → Option (List D × List Sl)):List Sl → Option (List D × List Sl):=fun δ=>(f δ).bind fun p=>match p.1 with
 | [.int j]=>if V1 j then some (Q2H 0 j.toNat,p.2) else none
 | [.int i,.int j]=>if V1 i && V1 j then some (Q2H i (j - i).toNat,p.2) else none
 | _=>none
theorem Q1p {tg a:Expr} {f} {R M:List Nat} {p pos:Pos} (hg:Gl X "range") (hm:X.mg "range" = none) (h:AV X [a] f R M) (hs:starEach [a] X.env = [(false,eval a X.env)]:=by rfl) (h1:∀ δ ds δ',f δ = some (ds,δ') → ds.length = 1):IV X tg (.Call (.Name "range" p) [a] [] pos) (Q1f f) [] M:=by
 obtain ⟨t,pa,q⟩:=h
 refine ⟨_,pi_range1 hg hm pa hs,fun Y F H δ σ A S ds δ' e Q k=>?_⟩
 unfold Q1f at e
 cases e1:f δ with
 | none=>rw [e1] at e; cases e
 | some w =>
  obtain ⟨es,δ1⟩:=w
  have hl:=h1 _ _ _ e1
  rw [e1] at e
  simp only [Q1] at e
  split at e
  ·split at e
   ·rename_i c
    cases e
    simp only [V1,Q4,decide_eq_true_eq] at c
    refine q Y F H δ σ A S _ _ e1 _ fun vs F1 H1 st S1 r=>?_
    obtain ⟨v,rfl,rv⟩:=r.one
    exact ⟨_,by rw [rv.int],c.1,c.2,k _ F1 H1 st S1 Q7w⟩
   ·cases e
  ·simp at hl
  ·cases e
def Q1O (T:Tt) (b:List Sl → Option Out):List D → List Sl → Option Out
 | [],δ=>some (.nx δ)
 | d :: r,δ=>(Xp T d δ).bind fun δ1=>(b δ1).bind fun o=>match o with
  | .nx δ2=>Q1O T b r δ2
  | .ct δ2=>Q1O T b r δ2
  | .rt d' δ2=>some (.rt d' δ2)
def Q4F (T:Tt) (f:List Sl → Option (List D × List Sl)) (b:List Sl → Option Out):List Sl → Option Out:=fun δ=>(f δ).bind fun p=>Q1O T b p.1 p.2
theorem Q6J {fr:Fr} {tg iter:Expr} {body:List Stmt} {pos:Pos} {T:Tt} {f} {M:List Nat} {b} (hp:PassesOwn (model X.prog X.w) X.A X.env X.xe) (hc:X.calm = true) (hi:IV X tg iter f [] M) (hg:GV X tg T) (hT:∀ j ∈ tS T,io j = false:=by decide) (hb:BV X io fr body b) (hs:∀ x,foldedSetIterable iter X.env x = pure x:=by intro _; rfl):SV X io fr (.For tg iter body [] pos) (Q4F T f b):=by
 obtain ⟨wi,pw,qi⟩:=hi
 obtain ⟨g,pg,qg⟩:=hg
 obtain ⟨tb,pb,qb⟩:=hb
 refine ⟨_,ps_for hp hc pw pg pb hs,fun Y F H δ σ A hY S o e D k=>?_⟩
 unfold Q4F at e
 cases e1:f δ with
 | none=>rw [e1] at e; cases e
 | some w =>
  obtain ⟨ds,δ1⟩:=w
  rw [e1] at e
  simp only [Q1] at e
  refine qi Y F H δ σ A S ds δ1 e1 _ fun J F1 H1 st S1 wk=>?_
  rw [Q6n] at wk
  refine ⟨fun i m σ' H'=>m = ds.length - i ∧ i ≤ ds.length ∧ ∃ F' A' δ',Same F1 F' ∧ SR X.K Y F' H' δ' σ' A' ∧ Q1O T b (ds.drop i) δ' = some o,⟨ds.length,by simp,Jh _,F1,A,δ1,Same.refl _,S1,by rw [List.drop_zero]; exact e⟩,?_⟩
  rintro i m σ' H' ⟨rfl,hi,F',A',δ',sF,S',ef⟩
  by_cases hlt:i < ds.length
  ·have hd:ds.drop i = ds[i] :: ds.drop (i + 1):=List.drop_eq_getElem_cons hlt
   rw [hd] at ef
   unfold Q1O at ef
   cases e2:Xp T ds[i] δ' with
   | none=>rw [e2] at ef; cases ef
   | some δ2 =>
    rw [e2] at ef
    simp only [Q1] at ef
    cases e3:b δ2 with
    | none=>rw [e3] at ef; cases ef
    | some o1 =>
     rw [e3] at ef
     simp only [Q1] at ef
     refine .inr ⟨wk.go i H' hlt (sF.trans S'.sub),fun σ2 H2=>∃ F2 A2 δ3,Same F' F2 ∧ SR X.K Y F2 H2 δ3 σ2 A2 ∧ Q1O T b (ds.drop (i + 1)) δ3 = some o,fun σ2 H2 ⟨F2,A2,δ3,s2,S2,e4⟩=>⟨ds.length - (i + 1),by omega,rfl,by omega,F2,A2,δ3,sF.trans s2,S2,e4⟩,fun x H2 y=>?_⟩
     have main:∀ (F2:Hp),Same F' F2 → SR X.K Y F2 H2 δ' σ' A' → Rp X.K F2 x ds[i] → g x σ' H2 fun σ2 H2=>tb { D with nx:=fun σ2 H2=>∃ F2 A2 δ3,Same F' F2 ∧ SR X.K Y F2 H2 δ3 σ2 A2 ∧ Q1O T b (ds.drop (i + 1)) δ3 = some o,ct:=fun σ2 H2=>∃ F2 A2 δ3,Same F' F2 ∧ SR X.K Y F2 H2 δ3 σ2 A2 ∧ Q1O T b (ds.drop (i + 1)) δ3 = some o,bk:=D.nx } σ2 H2:=by
      intro F2 s2 S2 r2
      refine qg Y F2 H2 δ' σ' A' (fun j hj=>by rw [hY]; exact hT j hj) S2 x _ δ2 r2 e2 _ fun σ3 A3 _ S3=>?_
      refine qb Y F2 H2 δ2 σ3 A3 hY S3 o1 e3 _ ?_
      cases o1 with
      | nx δ3=>exact fun σ4 F4 H4 A4 s4 S4=>⟨F4,A4,δ3,s2.trans s4,S4,ef⟩
      | ct δ3=>exact fun σ4 F4 H4 A4 s4 S4=>⟨F4,A4,δ3,s2.trans s4,S4,ef⟩
      | rt d' δ3 =>
       cases ef
       exact fun v σ4 F4 H4 A4 s4 S4 r=>k v σ4 F4 H4 A4 (st.f.trans (sF.trans (s2.trans s4))) S4 r
     rcases wk.yld i H' x H2 _ (sF.trans S'.sub) y (Q6 hlt) with ⟨rfl,r⟩ | ⟨U,xs,es,nU,rfl,rfl,e5,r⟩
     ·exact main F' (Same.refl _) S' (r.mono sF)
     ·have l:=Stp.laid (M:=[]) (o:=.tup xs) S' nU
      refine main _ l.f (S'.laid nU) ?_
      rw [e5]
      exact .tup (.inl (.inl upd_same)) (r.mono (sF.trans l.f))
  ·have hi2:i = ds.length:=by omega
   subst hi2
   rw [List.drop_length] at ef
   unfold Q1O at ef
   cases ef
   exact .inl ⟨wk.stop H' (sF.trans S'.sub),k σ' F' H' A' (st.f.trans sF) S'⟩
end
end Z
namespace Z
open PySem PySem.Spec PyProof.Rows L2
def tEV (K:PySem.W.Frag) (f:List Sl → Option (D × List Sl)) (R M:List Nat):TE:=fun σ H Q =>
 ∃ (Y:Fx) (F:Hp) (δ:List Sl) (A:Nat → List Addr) (d:D) (δ':List Sl),SR K Y F H δ σ A ∧ f δ = some (d,δ') ∧ ∀ v F' H',Stp A M F H F' H' → SR K Y F' H' δ' σ A → Vw K F' H' A R v d → Q v H'
def tTV (K:PySem.W.Frag) (f:List Sl → Option (Bool × List Sl)) (M:List Nat):TT:=fun σ H Q =>
 ∃ (Y:Fx) (F:Hp) (δ:List Sl) (A:Nat → List Addr) (b:Bool) (δ':List Sl),SR K Y F H δ σ A ∧ f δ = some (b,δ') ∧ ∀ F' H',Stp A M F H F' H' → SR K Y F' H' δ' σ A → Q b H'
def tGV (K:PySem.W.Frag) (T:Tt):TG:=fun x σ H Q =>
 ∃ (Y:Fx) (F:Hp) (δ:List Sl) (A:Nat → List Addr) (d:D) (δ':List Sl),(∀ j ∈ tS T,Y.io j = false) ∧ SR K Y F H δ σ A ∧ Rp K F x d ∧ Xp T d δ = some δ' ∧ ∀ σ' A',But (tS T) σ σ' A A' → SR K Y F H δ' σ' A' → Q σ' H
theorem EV.pe {X:Cx} {e:Expr} {f R M} (h:EV X e f R M):PE X e (tEV X.K f R M):=by
 obtain ⟨t,p,q⟩:=h
 refine ⟨fun pins s σ H Q I z=>?_⟩
 obtain ⟨Y,F,δ,A,d,δ',S,e1,k⟩:=z
 exact p.run pins s σ H Q I (q Y F H δ σ A S d δ' e1 Q k)
theorem TV.pt {X:Cx} {e:Expr} {f M} (h:TV X e f M):PT X e (tTV X.K f M):=by
 obtain ⟨t,p,q⟩:=h
 refine ⟨fun pins s σ H Q I z=>?_⟩
 obtain ⟨Y,F,δ,A,d,δ',S,e1,k⟩:=z
 exact p.run pins s σ H Q I (q Y F H δ σ A S d δ' e1 Q k)
theorem GV.pg {X:Cx} {e:Expr} {T:Tt} (h:GV X e T):PG X e (tGV X.K T):=by
 obtain ⟨g,p,q⟩:=h
 refine ⟨fun pins s σ H v u Q I r z=>?_⟩
 obtain ⟨Y,F,δ,A,d,δ',hY,S,r1,e1,k⟩:=z
 exact p.run pins s σ H v u Q I r (q Y F H δ σ A hY S v d δ' r1 e1 Q k)
theorem Q3v {σ:L2.St} {j:Nat}:∀ {vs:List Nat},j ∈ vs → j < σ.length → (wipe σ vs)[j]? = some none
 | v :: vs,h,hj=>by
  unfold wipe
  by_cases c:v = j
  ·subst c
   exact Qp (by rw [wipe_length]; exact hj)
  ·rw [Qk c]
   exact Q3v ((Ql.mp h).resolve_left fun z=>c z.symm) hj
theorem Xs {σ:L2.St} {j:Nat}:∀ {vs:List Nat},j ∉ vs → (wipe σ vs)[j]? = σ[j]?
 | [],_=>rfl
 | v :: vs,h=>by
  simp only [Ql,not_or] at h
  unfold wipe
  rw [Qk (Ne.symm h.1)]
  exact Xs h.2
theorem Q1Q {σ σ':L2.St} {vs:List Nat} (hl:σ'.length = σ.length) (h:∀ j,j ∉ vs → σ'[j]? = σ[j]?):wipe σ' vs = wipe σ vs:=by
 apply List.ext_getElem?
 intro j
 by_cases c:j ∈ vs
 ·by_cases cl:j < σ.length
  ·rw [Q3v c cl,Q3v c (by omega)]
  ·rw [Qn (by rw [wipe_length]; omega),Qn (by rw [wipe_length]; omega)]
 ·rw [Xs c,Xs c,h j c]
theorem Y9 {δ:List Sl}:∀ {vs:List Nat},(Xg vs δ).length = δ.length
 | []=>rfl
 | v :: vs=>by
  show ((Xg vs δ).set v .no).length = _
  rw [Jl,Y9]
theorem Va {δ:List Sl} {j:Nat}:∀ {vs:List Nat},j ∈ vs → j < δ.length → (Xg vs δ)[j]? = some .no
 | v :: vs,h,hj=>by
  show ((Xg vs δ).set v .no)[j]? = _
  by_cases c:v = j
  ·subst c
   exact Qp (by rw [Y9]; exact hj)
  ·rw [Qk c]
   exact Va ((Ql.mp h).resolve_left fun z=>c z.symm) hj
theorem Wd {δ:List Sl} {j:Nat}:∀ {vs:List Nat},j ∉ vs → (Xg vs δ)[j]? = δ[j]?
 | [],_=>rfl
 | v :: vs,h=>by
  simp only [Ql,not_or] at h
  show ((Xg vs δ).set v .no)[j]? = _
  rw [Qk (Ne.symm h.1)]
  exact Wd h.2
def noS (vs:List Nat) (δ:List Sl):Bool:=vs.all fun j=>match δ[j]? with
 | some .no=>true
 | _=>false
section
variable {K:PySem.W.Frag} {Y:Fx} {F H:Hp} {δ:List Sl} {σ σ':L2.St} {A:Nat → List Addr} {vs:List Nat}
theorem Wh (h:noS vs δ = true) {j:Nat} (hj:j ∈ vs):δ[j]? = some .no:=by
 have:=Qh.mp h j hj
 split at this
 ·assumption
 ·cases this
theorem Q10 {σ1 σ2:L2.St} {fs:List (Str × Nat)} (h:∀ q ∈ fs,σ1[q.2]? = σ2[q.2]?):Q0r σ1 fs = Q0r σ2 fs:=by
 unfold Q0r
 induction fs with
 | nil=>rfl
 | cons q r ih =>
  rw [Jf,Jf,h q Qe,ih fun x hx=>h x (Qb _ hx)]
theorem SR.wiped (S:SR K Y F H δ σ' A) (hw:wipe σ' vs = wipe σ vs) (hA:∀ j ∈ vs,A j = []) (hio:∀ j ∈ vs,Y.io j = false) (hl:∀ j ∈ vs,j < δ.length):SR K Y F H (Xg vs δ) (wipe σ vs) A:=by
 have hlen:(wipe σ vs).length = σ'.length:=by rw [← hw,wipe_length]
 have out:∀ j,j ∉ vs → (wipe σ vs)[j]? = σ'[j]?:=fun j hj=>by rw [← hw,Xs hj]
 refine ⟨by rw [Y9,hlen]; exact S.len,fun j t e=>?_,fun j e=>?_,S.dis,S.hid,S.new,S.sub,fun j h1=>?_,S.ioA,S.kp,S.nw,S.f0,S.lio,fun j c fs e=>?_,fun j hj=>?_⟩
 ·by_cases c:j ∈ vs
  ·rw [Va c (hl j c)] at e
   cases e
   exact hA j c
  ·rw [Wd c] at e
   rw [out j c]
   exact S.slot j t e
 ·by_cases c:j ∈ vs
  ·exact hA j c
  ·rw [Wd c] at e
   exact S.out j e
 ·have c:j ∉ vs:=fun c=>by rw [S.nlt (hio j c)] at h1; cases h1
  rw [out j c]
  exact S.fix j h1
 ·by_cases c2:j ∈ vs
  ·rw [Va c2 (hl j c2)] at e
   cases e
  ·rw [Wd c2] at e
   rw [out j c2]
   obtain ⟨h1,h2⟩:=S.ob j c fs e
   refine ⟨h1,fun p C dx fvs e1 e2=>?_⟩
   rw [h2 p C dx fvs e1 e2]
   exact Q10 fun q hq=>(out q.2 fun z=>by have:=h1 q hq; rw [S.nvt (hio q.2 z)] at this; cases this).symm
 ·rw [Wd fun z=>by rw [hio j z] at hj; cases hj]
  exact S.vno j hj
theorem SR.noA (S:SR K Y F H δ σ A) (h:noS vs δ = true):∀ j ∈ vs,A j = []:=fun j hj=>S.slot j _ (Wh h hj)
theorem Q48 (h:noS vs δ = true):Xg vs δ = δ:=by
 apply List.ext_getElem?
 intro j
 by_cases c:j ∈ vs
 ·rw [Wh h c,Va c (Q5.mp (Wh h c)).1]
 ·rw [Wd c]
end
def Vd (T:Tt) (vs:List Nat) (c:List Sl → Option (Bool × List Sl)) (f:List Sl → Option (D × List Sl)):List D → List Sl → Option (List D × List Sl)
 | [],δ=>some ([],δ)
 | d :: r,δ=>(Xp T d δ).bind fun δ1=>(c δ1).bind fun p=>match p.1 with
  | true=>(f p.2).bind fun q=>(Vd T vs c f r (Xg vs q.2)).map fun z=>(q.1 :: z.1,z.2)
  | false=>Vd T vs c f r (Xg vs p.2)
def fLc (T:Tt) (vs:List Nat) (it:List Sl → Option (List D × List Sl)) (c:List Sl → Option (Bool × List Sl)) (f:List Sl → Option (D × List Sl)):List Sl → Option (D × List Sl):=fun δ=>(it δ).bind fun p =>
 if noS vs p.2 && decide (p.1.length ≤ sizeLine) then (Vd T vs c f p.1 p.2).map fun q=>(.list q.1,q.2) else none
def Kq:List Sl → Option (Bool × List Sl):=fun δ=>some (true,δ)
def TsV (X:Cx) (es:List Expr) (f:List Sl → Option (Bool × List Sl)) (M:List Nat):Prop :=
 ∃ t,PTs X es t ∧ ∀ (Y:Fx) (F H:Hp) (δ:List Sl) (σ:L2.St) (A:Nat → List Addr),SR X.K Y F H δ σ A → ∀ (b:Bool) (δ':List Sl),f δ = some (b,δ') → ∀ Q:Bool → Hp → Prop,
  (∀ F' H',Stp A M F H F' H' → SR X.K Y F' H' δ' σ A → Q b H') → t σ H Q
theorem Kl {X:Cx}:TsV X [] Kq []:=by
 refine ⟨_,pts_nil,fun Y F H δ σ A S b δ' e Q k=>?_⟩
 cases e
 exact k F H Stp.refl S
theorem Q8c {X:Cx} {e:Expr} {f M} (h:TV X e f M):TsV X [e] f M:=by
 obtain ⟨t,p,q⟩:=h
 exact ⟨t,pts_one p,q⟩
theorem TsV.pts {X:Cx} {es:List Expr} {f M} (h:TsV X es f M):PTs X es (tTV X.K f M):=by
 obtain ⟨t,p,q⟩:=h
 refine ⟨fun pins s σ H Q I z=>?_⟩
 obtain ⟨Y,F,δ,A,d,δ',S,e1,k⟩:=z
 exact p.run pins s σ H Q I (q Y F H δ σ A S d δ' e1 Q k)
abbrev Bk (X:Cx) (scope:Scope) (s:Shared) (H:Hp) (C:Addr) (cl:List (Str × Addr)) (fp:List Addr):Cx:=X.blk s H scope (compEnvC scope cl C X.env) fp
theorem Q3F {X:Cx} {T:Tt} {vs:List Nat} {f c fe} {R M Mt Me:List Nat} {wi:TI}
  (hi:∀ (Y:Fx) (F H:Hp) (δ:List Sl) (σ:L2.St) (A:Nat → List Addr),SR X.K Y F H δ σ A → ∀ (ds:List D) (δ':List Sl),f δ = some (ds,δ') → ∀ Q:It → Hp → Prop,
   (∀ J F' H',Stp A M F H F' H' → SR X.K Y F' H' δ' σ A → Wk X.K F' (ex R A F' H') J ds → Q J H') → wi σ H Q)
  (hT:∀ j ∈ tS T,j ∈ vs) (dj:∀ i ∈ R,i ∉ Mt ++ Me:=by decide) (Y:Fx) (F H:Hp) (δ:List Sl) (σ:L2.St) (A:Nat → List Addr) (S:SR X.K Y F H δ σ A) (z:D) (δ':List Sl) (e:fLc T vs f c fe δ = some (z,δ')) (Q:VK)
  (k:∀ p F' H',Stp A (M ++ (Mt ++ Me)) F H F' H' → SR X.K Y F' H' δ' σ A → H p = none → F' p = none → Kc X.K F' H' p z → Q (.ref p) H') :
  tLc wi (tGV X.K T) (tTV X.K c Mt) (tEV X.K fe [] Me) vs σ H Q:=by
 unfold fLc at e
 cases e1:f δ with
 | none=>rw [e1] at e; cases e
 | some w =>
  obtain ⟨ds,δ1⟩:=w
  rw [e1] at e
  simp only [Q1] at e
  split at e
  ·rename_i cn
   rw [Q4,decide_eq_true_eq] at cn
   obtain ⟨cn,csz⟩:=cn
   cases e2:Vd T vs c fe ds δ1 with
   | none=>rw [e2] at e; cases e
   | some w =>
    obtain ⟨zs,δ2⟩:=w
    rw [e2] at e
    cases e
    refine hi Y F H δ σ A S ds δ1 e1 _ fun J F1 H1 st S1 wk=>?_
    intro p hp
    have hpF:F1 p = none:=S1.sub.free hp
    have hA:∀ j ∈ vs,A j = []:=S1.noA cn
    have hio:∀ j ∈ vs,Y.io j = false:=fun j hj=>by
     cases q:Y.io j with
     | false=>rfl
     | true=>exact absurd (Wh cn hj) (S1.vno j q)
    have hl1:∀ j ∈ vs,j < δ1.length:=fun j hj=>(Q5.mp (Wh cn hj)).1
    have Sw:SR X.K Y F1 H1 δ1 (wipe σ vs) A:=by
     have q:=S1.wiped (vs:=vs) (σ:=σ) rfl hA hio hl1
     rw [Q48 cn] at q
     exact q
    -- the invariant
    let Inv_:Nat → Hp → Prop:=fun i H'=>∃ F' δ' zs' acc,Stp A (Mt ++ Me) F1 H1 F' H' ∧ SR X.K Y F' H' δ' (wipe σ vs) A ∧ H' p = some (.lst acc) ∧ F' p = none ∧ Rps X.K F' acc zs' ∧ acc.length ≤ i ∧ δ'.length = δ1.length ∧ noS vs δ' = true ∧
     ∃ zr,Vd T vs c fe (ds.drop i) δ' = some (zr,δ2) ∧ zs = zs' ++ zr
    have start:Inv_ 0 (upd H1 p (.lst [])):=⟨F1,δ1,[],[],Stp.laidO hp,Sw.laidO hp,upd_same,hpF,.nil,Jb _,rfl,cn,zs,by rw [List.drop_zero]; exact e2,rfl⟩
    have seen:∀ {F' H' δ'},Stp A (Mt ++ Me) F1 H1 F' H' → SR X.K Y F' H' δ' (wipe σ vs) A → Same (ex R A F1 H1) H':=fun {F' H' δ'} st' S' a o ea=>by
     unfold ex at ea
     by_cases ca:∃ i ∈ R,a ∈ A i
     ·rw [if_pos ca] at ea
      obtain ⟨i,hi,ha⟩:=ca
      refine st'.kp a o ea fun j hj hz=>?_
      have:=S1.dis j i a hz ha
      subst this
      exact dj _ hi hj
     ·rw [if_neg ca] at ea
      exact S'.sub a o (st'.f a o ea)
    refine ⟨fun i m H'=>m = ds.length - i ∧ i ≤ ds.length ∧ Inv_ i H',⟨ds.length,by simp,Jh _,start⟩,?_⟩
    rintro i m H' ⟨rfl,hi,F',δ',zs',acc,st',S',hD,hDF,ra,hal,hl,hno,zr,ec,ezs⟩
    have nA:∀ j,p ∉ A j:=fun j hj=>S1.isSome hj hp
    by_cases hlt:i < ds.length
    ·have hd:ds.drop i = ds[i] :: ds.drop (i + 1):=List.drop_eq_getElem_cons hlt
     rw [hd] at ec
     unfold Vd at ec
     cases e3:Xp T ds[i] δ' with
     | none=>rw [e3] at ec; cases ec
     | some δ3 =>
      rw [e3] at ec
      simp only [Q1] at ec
      cases e4:c δ3 with
      | none=>rw [e4] at ec; cases ec
      | some w =>
       obtain ⟨b,δ4⟩:=w
       rw [e4] at ec
       simp only [Q1] at ec
       refine .inr ⟨wk.go i H' hlt (seen st' S'),fun H2=>Inv_ (i + 1) H2,fun H2 h=>⟨ds.length - (i + 1),by omega,rfl,by omega,h⟩,fun x H2 y=>?_⟩
       have main:∀ F2,Stp A (Mt ++ Me) F1 H1 F2 H2 → Same F' F2 → SR X.K Y F2 H2 δ' (wipe σ vs) A → H2 p = some (.lst acc) → F2 p = none → Rp X.K F2 x ds[i] →
         tGV X.K T x (wipe σ vs) H2 fun σ2 H2=>wipe σ2 vs = wipe σ vs ∧ tTV X.K c Mt σ2 H2 fun b H3 =>
          if b = true then tEV X.K fe [] Me σ2 H3 fun y H4=>∃ acc,H4 p = some (.lst acc) ∧ acc.length < sizeLine ∧ Inv_ (i + 1) (upd H4 p (.lst (acc ++ [y]))) else Inv_ (i + 1) H3:=by
        intro F2 st2 s2 S2 hD2 hF2 r2
        refine ⟨Y,F2,δ',A,ds[i],δ3,fun j hj=>hio j (hT j hj),S2,r2,e3,fun σ3 A3 bt S3=>?_⟩
        have eA:A3 = A:=by
         funext j
         by_cases c:j ∈ tS T
         ·rw [bt.e j c,hA j (hT j c)]
         ·exact bt.a j c
        subst eA
        have hl3:σ3.length = (wipe σ vs).length:=by
         rw [← S3.len,← S2.len]
         exact Kp e3
        have hw:wipe σ3 vs = wipe σ vs:=by
         have q:wipe σ3 vs = wipe (wipe σ vs) vs:=Q1Q hl3 fun j hj=>bt.s j fun z=>hj (hT j z)
         rw [q]
         exact Q1Q (wipe_length _ _) fun j hj=>Xs hj
        refine ⟨hw,Y,F2,δ3,A3,b,δ4,S3,e4,fun F3 H3 st3 S4=>?_⟩
        have st3':=(st2.trans S2 st3).mono (M':=Mt ++ Me) fun j hj=>by
         rcases Qj.mp hj with z | z
         ·exact z
         ·exact Q7 _ z
        have hD3:H3 p = some (.lst acc):=st3.kp p _ hD2 fun j _ hz=>nA j hz
        have hF3:F3 p = none:=by
         cases q:F3 p with
         | none=>rfl
         | some o =>
          have:=st3.nw p hF2 (by rw [q]; simp)
          rw [hD2] at this
          cases this
        have hl4:δ4.length = δ1.length:=by
         rw [S4.len,hl3,← S2.len]
         exact hl
        have hls4:∀ j ∈ vs,j < δ4.length:=fun j hj=>by rw [hl4]; exact hl1 j hj
        cases b with
        | false =>
         refine iteF ⟨F3,Xg vs δ4,zs',acc,st3',S4.wiped hw hA hio hls4,hD3,hF3,ra.mono (s2.trans st3.f),by omega,by rw [Y9]; exact hl4,?_,zr,ec,ezs⟩
         exact Qh.mpr fun j hj=>by rw [Va hj (hls4 j hj)]
        | true =>
         refine iteT ?_
         simp only at ec
         cases e5:fe δ4 with
         | none=>rw [e5] at ec; cases ec
         | some w =>
          obtain ⟨d,δ5⟩:=w
          rw [e5] at ec
          simp only [Q1] at ec
          cases e6:Vd T vs c fe (ds.drop (i + 1)) (Xg vs δ5) with
          | none=>rw [e6] at ec; cases ec
          | some w =>
           obtain ⟨zr',δ6⟩:=w
           rw [e6] at ec
           simp only [Qx,Qs.injEq,Prod.mk.injEq] at ec
           obtain ⟨rfl,rfl⟩:=ec
           refine ⟨Y,F3,δ4,A3,d,δ5,S4,e5,fun v F4 H4 st4 S5 r4=>?_⟩
           have st4':=(st3'.trans S4 st4).mono (M':=Mt ++ Me) fun j hj=>by
            rcases Qj.mp hj with z | z
            ·exact z
            ·exact Q8 _ z
           have hD4:H4 p = some (.lst acc):=st4.kp p _ hD3 fun j _ hz=>nA j hz
           have hF4:F4 p = none:=by
            cases q:F4 p with
            | none=>rfl
            | some o =>
             have:=st4.nw p hF3 (by rw [q]; simp)
             rw [hD3] at this
             cases this
           have hl5:δ5.length = δ1.length:=by
            rw [S5.len,hl3,← S2.len]
            exact hl
           have hls5:∀ j ∈ vs,j < δ5.length:=fun j hj=>by rw [hl5]; exact hl1 j hj
           have Sf:SR X.K Y F4 (upd H4 p (.lst (acc ++ [v]))) δ5 σ3 A3:=S5.upd_free hF4 nA (by
            cases q:Y.H0 p with
            | none=>rfl
            | some o=>rw [S1.fresh0 hp] at q; cases q)
           refine ⟨acc,hD4,by omega,F4,Xg vs δ5,zs' ++ [d],acc ++ [v],?_,Sf.wiped hw hA hio hls5,upd_same,hF4,((ra.mono ((s2.trans st3.f).trans st4.f)).append (.cons r4.nil .nil)),by rw [Qc]; simp; omega,by rw [Y9]; exact hl5,?_,zr',e6,by rw [ezs,List.append_assoc]; rfl⟩
           ·exact ⟨st4'.f,st4'.nw,fun a o ea hn=>by rw [upd_ne (ne_of_none ea hp)]; exact st4'.kp a o ea hn⟩
           ·exact Qh.mpr fun j hj=>by rw [Va hj (hls5 j hj)]
       have sE:=seen st' S'
       rcases wk.yld i H' x H2 _ sE y (Q6 hlt) with ⟨rfl,r⟩ | ⟨U,xs,es,nU,rfl,rfl,e5,r⟩
       ·exact main F' st' (Same.refl _) S' hD hDF (r.mono st'.f)
       ·have l:=Stp.laid (M:=[]) (o:=.tup xs) S' nU
        have npU:p ≠ U:=ne_of_none hD nU
        refine main _ (Xq S' st' l) l.f (S'.laid nU) (by rw [upd_ne npU]; exact hD) (by rw [upd_ne npU]; exact hDF) ?_
        rw [e5]
        exact .tup (.inl (.inl upd_same)) (r.mono (st'.f.trans l.f))
    ·have hi2:i = ds.length:=by omega
     subst hi2
     rw [List.drop_length] at ec
     unfold Vd at ec
     simp only [Qs.injEq,Prod.mk.injEq] at ec
     obtain ⟨rfl,rfl⟩:=ec
     rw [Qz] at ezs
     subst ezs
     refine .inl ⟨wk.stop H' (seen st' S'),k p F' H' (st.trans S1 st') ?_ (Q6y st S1 hp) hDF ⟨acc,hD,ra⟩⟩
     -- the outer slots again
     refine ⟨by rw [S'.len,wipe_length],fun j t et=>?_,S'.out,S'.dis,S'.hid,S'.new,S'.sub,fun j h1=>?_,S'.ioA,S'.kp,S'.nw,S'.f0,S'.lio,fun j c0 fs0 eo=>?_,S'.vno⟩
     ·by_cases cj:j ∈ vs
      ·rw [Wh hno cj] at et
       cases et
       exact hA j cj
      ·have:=S'.slot j t et
       rw [Xs cj] at this
       exact this
     ·have cj:j ∉ vs:=fun z=>by rw [S1.nlt (hio j z)] at h1; cases h1
      have:=S'.fix j h1
      rw [Xs cj] at this
      exact this
     ·have cj:j ∉ vs:=fun z=>by
       rw [Wh hno z] at eo
       cases eo
      obtain ⟨h1,h2⟩:=S'.ob j c0 fs0 eo
      rw [Xs cj] at h2
      refine ⟨h1,fun p0 C0 dx0 fvs0 e10 e20=>?_⟩
      rw [h2 p0 C0 dx0 fvs0 e10 e20]
      exact Q10 fun q hq=>Xs fun z=>by have:=h1 q hq; rw [S.nvt (hio q.2 z)] at this; cases this
  ·cases e
section
variable {X:Cx} {T:Tt} {f c fe} {R M Mt Me:List Nat} {elt tg iter:Expr} {ifs:List Expr} {scope:Scope} {own:List (Str × Nat)} {pos:Pos}
theorem Q55 (hc:X.calm = true) (hN:X.N.Nodup) (hi:IV X tg iter f R M) (ok:BlkOk X.N X.env.scope scope own) (hg:∀ s H C cl fp,GV (Bk X scope s H C cl fp) tg T) (ht:∀ s H C cl fp,TsV (Bk X scope s H C cl fp) ifs c Mt) (he:∀ s H C cl fp,EV (Bk X scope s H C cl fp) elt fe [] Me)
  (hs:∀ x,foldedSetIterable iter X.env x = pure x:=by intro _; rfl) (hT:∀ j ∈ tS T,j ∈ own.map (·.2):=by decide) (dj:∀ i ∈ R,i ∉ Mt ++ Me:=by decide):NV X (.ListComp elt [⟨tg,iter,ifs,0⟩] scope pos) (fLc T (own.map (·.2)) f c fe) (M ++ (Mt ++ Me)):=by
 obtain ⟨wi,pw,qi⟩:=hi
 refine ⟨_,pe_lc (g:=tGV X.K T) (tt:=tTV X.K c Mt) (te:=tEV X.K fe [] Me) hc hN pw ok (fun s H C cl fp=>(hg s H C cl fp).pg) (fun s H C cl fp=>(ht s H C cl fp).pts) (fun s H C cl fp=>(he s H C cl fp).pe) hs,fun Y F H δ σ A S z δ' e Q k=>?_⟩
 exact Q3F qi hT dj Y F H δ σ A S z δ' e Q k
theorem Qbh {io:Iom} {fr:Fr} {i:Nat} {y:Str} {py spos:Pos} (hc:X.calm = true) (hN:X.N.Nodup) (hy:X.N[i]? = some y) (hyl:X.env.scope.names.lookup y = some .local) (hsw:swapsWith (.ListComp elt [⟨tg,iter,ifs,0⟩] scope pos) (some (.Name y py)) spos.line X.env = pure true)
  (hi:IV X tg iter f R M) (ok:BlkOk X.N X.env.scope scope own) (hg:∀ s H C cl fp,GV (Bk X scope s H C cl fp) tg T) (ht:∀ s H C cl fp,TsV (Bk X scope s H C cl fp) ifs c Mt) (he:∀ s H C cl fp,EV (Bk X scope s H C cl fp) elt fe [] Me)
  (hs:∀ x,foldedSetIterable iter X.env x = pure x:=by intro _; rfl) (hT:∀ j ∈ tS T,j ∈ own.map (·.2):=by decide) (dj:∀ i ∈ R,i ∉ Mt ++ Me:=by decide) (hio:io i = false):SV X io fr (.Assign [.Name y py] (.ListComp elt [⟨tg,iter,ifs,0⟩] scope pos) spos) (Q2M i (fLc T (own.map (·.2)) f c fe)):=by
 obtain ⟨wi,pw,qi⟩:=hi
 refine ⟨_,ps_setLc (g:=tGV X.K T) (tt:=tTV X.K c Mt) (te:=tEV X.K fe [] Me) hc hN hy hyl hsw pw ok (fun s H C cl fp=>(hg s H C cl fp).pg) (fun s H C cl fp=>(ht s H C cl fp).pts) (fun s H C cl fp=>(he s H C cl fp).pe) hs,fun Y F H δ σ A hY S o e D k=>?_⟩
 unfold Q2M at e
 cases e1:fLc T (own.map (·.2)) f c fe δ with
 | none=>rw [e1] at e; cases e
 | some w =>
  obtain ⟨d,δ1⟩:=w
  rw [e1] at e
  simp only [Q1] at e
  split at e
  ·rename_i hi
   cases e
   refine Q3F qi hT dj Y F H δ σ A S d δ1 e1 _ fun p F1 H1 st S1 n hF r=>?_
   exact k _ F1 H1 _ st.f (S1.putOw hi (by rw [hY]; exact hio) (S.fresh0 n) hF (fun j hj=>S.isSome hj n) r)
  ·cases e
end
end Z
namespace Z
open PySem PySem.Spec PyProof.Rows L2
structure FnG (P:Program) (w:World) (K:PySem.W.Frag) (mg:Str → Option Value) (base:Heap) (CX:CXT) (k:Nat) (f:Addr) (fd:FuncData) (ps:List Str) (sp:Sp):Prop where
 len:∀ us G Q E,sp us G Q E → us.length = ps.length
 run:∀ (A:Around) (out:List Env) (s:Shared) (G:Hp) (ar:Args) (ws:List Value) (us:List V) (Q:VK) (E:XK),A.guards = some [] → Room k A → Env0 P w K mg base A out s G → BindsTo s fd ar (ps.zip ws) → Vals us ws → sp us G Q E →
  codeAny (model P w) A (.call (.ref f) ar) (CR CX out P w G s Q E) s
section
variable {P:Program} {w:World} {K:PySem.W.Frag} {mg:Str → Option Value} {base:Heap} {CX:CXT} {k:Nat} {f:Addr} {fd:FuncData} {ps:List Str} {sp:Sp}
theorem FnG.mk' {x qual:Str} {st:Stmt} {N:List Str} (Fu:Fun K x qual st f fd) (S:FnScope N ps (defScope st)) (len:∀ us G Q E,sp us G Q E → us.length = ps.length)
  (body:∀ (cd:Value) (A:Around) (out:List Env) (s:Shared) (G:Hp) (us:List V) (Q:VK) (E:XK),A.guards = some [] → Room k (A.deeper (envOfC qual (defScope st) s.heap.objs.size f cd)) → sp us G Q E →
   ∃ t,PSs (cxOf CX P w K mg base N qual (defScope st) f cd A out s G E) (defBody st) t ∧ t { nx:=fun _ G'=>Q .non G',rt:=Q } (start N us) G):FnG P w K mg base CX (k + 1) f fd ps sp:=by
 obtain ⟨oc,od,kV,doc,pm,an,cd,ct,osl,rfl,lk,hcd⟩:=Fu.ex
 refine ⟨len,?_⟩
 intro A out s G ar ws us Q E hG hR e0 hb hv hsp
 have n:=len _ _ _ _ hsp
 have inK:K.In s.heap:=e0.mod.kin.keeps (fun b o e=>(e0.bs b o e).1)
 have room:s.heap.NoLimit:=e0.mod.nolimit.keeps (fun b o e=>(e0.bs b o e).1)
 have kinds:∀ y ∈ ps.zip ws,(defScope st).names.lookup y.1 = some .local ∨ ((defScope st).names.lookup y.1 = some .cell ∧ ((cellsFrom (s.heap.objs.size + 1) (defScope st).names []).lookup y.1).isSome = true):=by
  rintro ⟨m,v⟩ hy
  rcases S.par m (List.of_mem_zip hy).1 with q | q
  ·exact .inl q
  ·exact .inr ⟨q,PySem.W.cellsFrom_some _ _ _ (.inl q)⟩
 refine codeAny_call_function hR.depth (inK _ _ lk) rfl S.co S.gen rfl (PySem.W.codeRec_of inK hcd) (hb _ _ _ _ ?_)
 refine wpAny_newFunctionEnv_cells S.kind kinds fun env he s1 x=>?_
 subst he
 refine ⟨room.keeps x.toInCall.keep,codeAny_func ?_⟩
 obtain ⟨t,ht,hq⟩:=body cd A out s G us Q E hG (hR.deeper _) hsp
 have J0:=inv_start (CX:=CX) (E:=E) S hR.hd e0 n hv x
 refine wpAny_mono (ht.run [] s1 (start N us) G _ J0 hq) (fun fl s2 hs=>?_) (fun _ _ hs=>hs)
 cases fl with
 | ret u =>
  obtain ⟨v,σ2,G2,J,rv,q⟩:=hs
  exact ⟨v,G2,J.os,J.bare,J.base,J.hok,rv,q⟩
 | next =>
  obtain ⟨σ2,G2,J,q⟩:=hs
  exact ⟨.non,G2,J.os,J.bare,J.base,J.hok,rfl,q⟩
 | brk =>
  obtain ⟨_,_,_,q⟩:=hs
  exact q.elim
 | cont =>
  obtain ⟨_,_,_,q⟩:=hs
  exact q.elim
end
section
variable {X:Cx} {CX:CXT} {k:Nat} {f:Addr} {fd:FuncData} {ps:List Str} {sp:Sp} {E:XK} {x:Str} {p pos:Pos} {e:Expr} {es:List Expr} {t:TA}
theorem FnG.pe (Fn:FnG X.prog X.w X.K X.mg X.base CX k f fd ps sp) (hG:X.A.guards = some []) (hR:Room k X.A) (gl:Gl X x) (m:X.mg x = some (.ref f)) (kp:PySem.W.keepIn X.K (.ref f) = true) (hb:Binds X.K fd ps []) (hx:Passes CX X E)
  (ha:PA X (e :: es) t) (db:(x == ("__debug__":Str)) = false) (h1:starEach (e :: es) X.env = (false,eval e X.env) :: starEach es X.env) (h2:(backTo pos (starEach es X.env)).any (·.1) = false) :
  PE X (.Call (.Name x p) (e :: es) [] pos) (tCall sp [] E t):=by
 constructor
 intro pins s σ G Q I h
 refine wpAny_Call_Name_kw (ld_glob I gl m ?_ db)
 refine PySem.W.callWith_K (h₀:=X.base) I.ok.mod.kin kp (thn (ha.run pos pins s σ G _ I h) ?_) h1 h2
 rintro ws s1 ⟨us,G1,I1,r,q⟩
 refine ⟨I1.kIn,?_⟩
 rw [Qz] at q
 have n:=Fn.len _ _ _ _ q
 have n2:(ws ++ []).length = ps.length:=by rw [Qz,← r.length]; exact n
 have b:=hb s1 ws I1.kIn n2
 rw [Qz] at b
 refine wpAny_call (codeAny_mono (Fn.run X.A X.stack s1 G1 ⟨ws,[]⟩ ws us Q E hG hR I1.env0 b r q) ?_)
 intro res s2 hq
 cases res with
 | error er=>exact hx pins σ G1 s1 er s2 I1 hq
 | ok fl =>
  cases fl with
  | ret u=>exact I1.after hq
  | next=>exact hq.elim
  | brk=>exact hq.elim
  | cont=>exact hq.elim
end
def Yo:Sl → Bool
 | .ow _=>true
 | .lk _=>true
 | .dk _ _ _=>true
 | .ob _ _=>true
 | .dl _=>true
 | _=>false
def Ku:Sl → Bool
 | .ob _ _=>true
 | _=>false
def Vu (s:Sl):Bool:=Yo s && !Ku s
theorem Q4L {s:Sl} (h:Vu s = true):Yo s = true:=by
 unfold Vu at h
 rw [Q4] at h
 exact h.1
def Ret (K:PySem.W.Frag) (A:Nat → List Addr) (fr:Fr) (H F' H':Hp) (v:V) (d:D):Prop :=
 match fr with
 | .n=>Rp K F' v d
 | .t=>PlT K F' v d
 | .l=>∃ p,v = .ref p ∧ H p = none ∧ F' p = none ∧ Kc K F' H' p d
 | .p=>∃ a p q d0 d1,v = .ref a ∧ d = .tuple [d0,d1] ∧ H' a = some (.tup [.ref p,.ref q]) ∧ p ≠ q ∧ (H p = none ∧ F' p = none ∧ Kc K F' H' p d0) ∧ H q = none ∧ F' q = none ∧ Kc K F' H' q d1
 | .s j=>∃ p,v = .ref p ∧ A j = [p]
def spF (K:PySem.W.Frag) (n:Nat) (fr:Fr) (φ:List Sl → Option (D × List Sl)):Sp:=fun us H Q _ =>
 ∃ (F:Hp) (as:List Sl) (A:Nat → List Addr),as.length = n ∧ SR K Fx.any F H as (us.map some) A ∧ ∃ d outs,φ as = some (d,outs) ∧
  ∀ v F' H',Stp A (Jn n) F H F' H' → SR K Fx.any F' H' outs (us.map some) A → Ret K A fr H F' H' v d → Q v H'
theorem Q8u {K:PySem.W.Frag} {n:Nat} {fr:Fr} {φ} {us:List V} {H:Hp} {Q:VK} {E:XK} (h:spF K n fr φ us H Q E):us.length = n:=by
 obtain ⟨F,as,A,hn,S,_⟩:=h
 have:=S.len
 rw [Q3] at this
 omega
def Yb:List Sl → List Sl → Option (List Sl)
 | [],_=>some []
 | a :: r,b :: s=>match Yo a with
  | true=>match Vu b with
   | true=>(Yb r s).map (b :: ·)
   | false=>none
  | false=>(Yb r s).map (a :: ·)
 | _ :: _,[]=>none
def Q0B (sg:List Bool) (as:List Sl):Bool:=decide (as.map Yo = sg) && as.all fun a=>!Ku a
theorem Q38 {sg:List Bool} {as:List Sl} (h:Q0B sg as = true):as.map Yo = sg:=by
 unfold Q0B at h
 rw [Q4] at h
 exact of_decide_eq_true h.1
def fnF (sg:List Bool) (m:Nat) (fr:Fr) (g:List Sl → Option Out):List Sl → Option (D × List Sl):=fun as =>
 if Q0B sg as then
  match g (as ++ Qy (m - sg.length) .no) with
  | some (.rt d δ)=>(Yb as δ).map fun o=>(d,o)
  | some (.nx δ)=>match fr with
   | .n=>(Yb as δ).map fun o=>(.none,o)
   | _=>none
  | _=>none
 else none
theorem Wu:∀ {as δ o:List Sl},Yb as δ = some o → o.length = as.length
 | [],_,_,h=>by cases h; rfl
 | a :: r,b :: s,o,h=>by
  unfold Yb at h
  split at h
  ·split at h
   ·cases e:Yb r s with
    | none=>rw [e] at h; cases h
    | some z=>rw [e] at h; cases h; exact congrArg (· + 1) (Wu e)
   ·cases h
  ·cases e:Yb r s with
   | none=>rw [e] at h; cases h
   | some z=>rw [e] at h; cases h; exact congrArg (· + 1) (Wu e)
 | _ :: _,[],_,h=>by cases h
theorem Ki:∀ {as δ o:List Sl} {i:Nat} {a:Sl},Yb as δ = some o → as[i]? = some a → (Yo a = true ∧ ∃ b,δ[i]? = some b ∧ Vu b = true ∧ o[i]? = some b) ∨ (Yo a = false ∧ o[i]? = some a)
 | [],_,_,_,_,_,e=>by simp at e
 | a :: r,b :: s,o,i,c,h,e=>by
  unfold Yb at h
  split at h
  ·rename_i ha
   split at h
   ·rename_i hb
    cases e1:Yb r s with
    | none=>rw [e1] at h; cases h
    | some z =>
     rw [e1] at h
     cases h
     cases i with
     | zero=>cases e; exact .inl ⟨ha,b,rfl,hb,rfl⟩
     | succ i=>exact Ki (i:=i) e1 e
   ·cases h
  ·rename_i ha
   cases e1:Yb r s with
   | none=>rw [e1] at h; cases h
   | some z =>
    rw [e1] at h
    cases h
    cases i with
    | zero =>
     cases e
     refine .inr ⟨?_,rfl⟩
     cases q:Yo a with
     | false=>rfl
     | true=>exact absurd q (by simpa using ha)
    | succ i=>exact Ki (i:=i) e1 e
 | _ :: _,[],_,_,_,h,_=>by cases h
def Y7 (sg:List Bool) (i:Nat):Bool:=sg.getD i false
section
variable {K:PySem.W.Frag} {F H F' H':Hp} {as:List Sl} {us:List V} {A:Nat → List Addr}
theorem Kw {s:Sl} {v:Option V} {B:List Addr} (h:Vy K F H s v B) (n:Yo s = false):B = []:=by
 cases s with
 | no=>exact h
 | fz d=>exact h.1
 | ow d=>cases n
 | lk d=>cases n
 | dk _ _ _=>cases n
 | ob _ _=>cases n
 | dl _=>cases n
 | ab=>exact h.1
 | xv _=>exact h.1
 | scr _=>exact h.1
theorem SR.entry {sg:List Bool} {N:List Str} (S:SR K Fx.any F H as (us.map some) A) (h:Q0B sg as = true) (hN:sg.length ≤ N.length) :
  SR K ⟨Iom.of (Y7 sg),Y7 sg,fun _=>false,H,F,start N us,A,fun _ z=>Bool.noConfusion z⟩ F H (as ++ Qy (N.length - sg.length) .no) (start N us) A:=by
 have hsg:as.map Yo = sg:=Q38 h
 have l1:as.length = sg.length:=by rw [← hsg,Q3]
 have l2:as.length = us.length:=by have:=S.len; rwa [Q3] at this
 have own:∀ i a,as[i]? = some a → Y7 sg i = Yo a:=fun i a e=>by
  unfold Y7
  rw [← hsg,Jc,Qd,e]
  rfl
 have ino:∀ i,Y7 sg i = true → ∃ a,as[i]? = some a ∧ Yo a = true:=fun i h=>by
  cases e:as[i]? with
  | none =>
   unfold Y7 at h
   rw [← hsg,Jc,Qd,e] at h
   cases h
  | some a=>exact ⟨a,rfl,by rw [← own i a e]; exact h⟩
 refine ⟨?_,fun i s e=>?_,fun i e=>?_,S.dis,S.hid,fun i a ha hi=>?_,S.sub,fun i _=>⟨rfl,rfl⟩,fun i hi=>?_,fun _ _ e _=>e,fun _ e n=>absurd e n,Same.refl _,fun _ h=>h.elim id (fun z=>(by cases z)),fun i c fs e=>?_,fun i hi e=>?_⟩
 ·unfold L2.start
  rw [Qc,Js,Qc,Q3,Js]
  omega
 ·by_cases c:i < as.length
  ·rw [Q9 c] at e
   have:=S.slot i s e
   unfold L2.start
   rw [Q9 (by rw [Q3]; omega)]
   exact this
  ·rw [Qo (by omega),Jo] at e
   split at e
   ·cases e
    exact S.out i (Qn (by omega))
   ·cases e
 ·have:as.length ≤ i:=by
   have:=Qv.mp e
   rw [Qc] at this
   omega
  exact S.out i (Qn this)
 ·cases e:as[i]? with
  | none=>rw [S.out i e] at ha; simp at ha
  | some s =>
   rw [Kw (S.slot i s e) (by rw [← own i s e]; exact hi)] at ha
   simp at ha
 ·exact trivial
 ·by_cases c:i < as.length
  ·rw [Q9 c] at e
   obtain ⟨h1,h2⟩:=S.ob i _ fs e
   have hfs:fs = []:=by
    cases fs with
    | nil=>rfl
    | cons q r=>cases h1 q Qe
   subst hfs
   refine ⟨by simp,fun p C dx fvs e1 e2=>h2 p C dx fvs ?_ e2⟩
   unfold L2.start at e1
   rw [Q9 (by rw [Q3]; omega)] at e1
   exact e1
  ·rw [Qo (by omega),Jo] at e
   split at e <;> cases e
 ·obtain ⟨a,e1,ho⟩:=ino i hi
  have c:=(Q5.mp e1).1
  rw [Q9 c,e1] at e
  cases e
  cases ho
theorem SR.leave {sg:List Bool} {N:List Str} {δ' outs:List Sl} {σ':L2.St} {A':Nat → List Addr} (S:SR K Fx.any F H as (us.map some) A) (h:Q0B sg as = true) (hN:sg.length ≤ N.length) (S':SR K ⟨Iom.of (Y7 sg),Y7 sg,fun _=>false,H,F,start N us,A,fun _ z=>Bool.noConfusion z⟩ F' H' δ' σ' A') (hm:Yb as δ' = some outs) :
  Stp A (Jn sg.length) F H F' H' ∧ SR K Fx.any F' H' outs (us.map some) A:=by
 have hsg:as.map Yo = sg:=Q38 h
 have l1:as.length = sg.length:=by rw [← hsg,Q3]
 have l2:as.length = us.length:=by have:=S.len; rwa [Q3] at this
 have own:∀ i a,as[i]? = some a → Y7 sg i = Yo a:=fun i a e=>by
  unfold Y7
  rw [← hsg,Jc,Qd,e]
  rfl
 have nul:∀ i,Y7 sg i = false → A i = []:=fun i hi=>by
  cases e:as[i]? with
  | none=>exact S.out i e
  | some s=>exact Kw (S.slot i s e) (by rw [← own i s e]; exact hi)
 have lo:=Wu hm
 have eqA:∀ i,Y7 sg i = true → A' i = A i:=fun i hi=>(S'.fix i hi).2
 have small:∀ i,Y7 sg i = true → i < sg.length:=fun i hi=>by
  cases Nat.lt_or_ge i sg.length with
  | inl h=>exact h
  | inr h =>
   unfold Y7 at hi
   rw [Jc,Qn h] at hi
   cases hi
 refine ⟨⟨S'.f0,S'.nw,fun a o e n=>S'.kp a o e fun i hi z=>n i (List.mem_range.mpr (small i hi)) z⟩,?_⟩
 refine ⟨by rw [lo]; exact S.len,fun i s e=>?_,fun i e=>?_,S.dis,fun i a ha=>?_,fun _ _ _ _=>rfl,S'.sub,fun i hi=>?_,fun i hi=>?_,fun _ _ e=>?_,fun _ _ _=>rfl,fun _ _ e=>?_,fun _ h=>(by rcases h with h | h <;> cases h),fun i c fs e=>?_,fun _ h=>by cases h⟩
 ·have hi:i < as.length:=by rw [← lo]; exact (Q5.mp e).1
  obtain ⟨a,ea⟩:∃ a,as[i]? = some a:=⟨_,Q6 hi⟩
  rcases Ki hm ea with ⟨h1,b,h2,h3,h4⟩ | ⟨h1,h2⟩
  ·rw [e] at h4
   cases h4
   have io:Y7 sg i = true:=by rw [own i a ea]; exact h1
   have q:=S'.slot i s h2
   obtain ⟨f1,f2⟩:=S'.fix i io
   rw [f1,f2] at q
   have:(start N us)[i]? = (us.map some)[i]?:=by
    unfold L2.start
    rw [Q9 (by rw [Q3]; omega)]
   rw [show (⟨Iom.of (Y7 sg),Y7 sg,fun _=>false,H,F,start N us,A,fun _ z=>Bool.noConfusion z⟩:Fx).σ0 = start N us from rfl,this] at q
   exact q
  ·rw [e] at h2
   cases h2
   have io:Y7 sg i = false:=by rw [own i s ea]; exact h1
   refine (S.slot i s ea).mono S'.f0 fun a ha=>?_
   rw [nul i io] at ha
   simp at ha
 ·exact S.out i (Qn (by rw [← lo]; exact Qv.mp e))
 ·cases c:Y7 sg i with
  | true =>
   rw [← eqA i c] at ha
   exact S'.hid i a ha
  | false =>
   rw [nul i c] at ha
   simp at ha
 ·cases hi
 ·cases hi
 ·cases e
 ·cases e
 ·have hi:i < as.length:=by rw [← lo]; exact (Q5.mp e).1
  obtain ⟨a,ea⟩:∃ a,as[i]? = some a:=⟨_,Q6 hi⟩
  rcases Ki hm ea with ⟨h1,b,h2,h3,h4⟩ | ⟨h1,h2⟩
  ·rw [e] at h4
   cases h4
   cases h3
  ·rw [e] at h2
   cases h2
   cases h1
end
section
variable {P:Program} {w:World} {K:PySem.W.Frag} {mg:Str → Option Value} {base:Heap} {CX:CXT} {k:Nat} {f:Addr} {fd:FuncData} {ps:List Str}
theorem Zf {x qual:Str} {st:Stmt} {N:List Str} {sg:List Bool} {fr:Fr} {g:List Sl → Option Out} (Fu:Fun K x qual st f fd) (S:FnScope N ps (defScope st)) (hl:sg.length = ps.length)
  (body:∀ (cd:Value) (A:Around) (out:List Env) (s:Shared) (G:Hp) (E:XK),A.guards = some [] → Room k (A.deeper (envOfC qual (defScope st) s.heap.objs.size f cd)) → BV (cxOf CX P w K mg base N qual (defScope st) f cd A out s G E) (Iom.of (Y7 sg)) fr (defBody st) g) :
  FnG P w K mg base CX (k + 1) f fd ps (spF K ps.length fr (fnF sg N.length fr g)):=by
 have hN:sg.length ≤ N.length:=by
  rw [hl]
  have:=congrArg List.length S.pre
  rw [List.length_take] at this
  omega
 refine FnG.mk' Fu S (fun us G Q E h=>Q8u h) fun cd A out s G us Q E hG hR h=>?_
 obtain ⟨t,p,q⟩:=body cd A out s G E hG hR
 refine ⟨t,p,?_⟩
 obtain ⟨F,as,B,hn,S0,d,outs,hφ,kk⟩:=h
 unfold fnF at hφ
 split at hφ
 ·rename_i ok
  have S1:=S0.entry ok hN
  cases e:g (as ++ Qy (N.length - sg.length) .no) with
  | none=>rw [e] at hφ; cases hφ
  | some o =>
   rw [e] at hφ
   refine q ⟨Iom.of (Y7 sg),Y7 sg,fun _=>false,G,F,start N us,B,fun _ z=>Bool.noConfusion z⟩ F G _ (start N us) B rfl S1 o e _ ?_
   cases o with
   | rt d1 δ1 =>
    simp only at hφ
    cases e2:Yb as δ1 with
    | none=>rw [e2] at hφ; cases hφ
    | some o =>
     rw [e2] at hφ
     cases hφ
     intro v σ' F' G' B' sF S2 r
     obtain ⟨st',S3⟩:=S0.leave ok hN S2 e2
     rw [hl] at st'
     refine kk v F' G' st' S3 ?_
     cases fr with
     | n=>exact r
     | t=>exact r
     | l =>
      obtain ⟨p',rv,h0,hF,_,ow⟩:=r
      exact ⟨p',rv,h0,hF,ow⟩
     | p =>
      obtain ⟨a',p',q',d0,d1,rv,rd,ha,ne,⟨h0,hF,_,ow⟩,h1,hF1,_,ow1⟩:=r
      exact ⟨a',p',q',d0,d1,rv,rd,ha,ne,⟨h0,hF,ow⟩,h1,hF1,ow1⟩
     | s j =>
      obtain ⟨_,hio,p',rv,ha⟩:=r
      exact ⟨p',rv,(S2.fix j hio).2.symm.trans ha⟩
   | nx δ1 =>
    cases fr with
    | l=>cases hφ
    | t=>cases hφ
    | p=>cases hφ
    | s j=>cases hφ
    | n =>
     simp only at hφ
     cases e2:Yb as δ1 with
     | none=>rw [e2] at hφ; cases hφ
     | some o =>
      rw [e2] at hφ
      cases hφ
      intro σ' F' G' B' sF S2
      obtain ⟨st',S3⟩:=S0.leave ok hN S2 e2
      rw [hl] at st'
      exact kk .non F' G' st' S3 .non
   | ct δ1=>cases hφ
 ·cases hφ
end
end Z
namespace Z
open PySem PySem.Spec PyProof.Rows L2
inductive Ar where
 | d (d:D)
 | io (i:Nat)
def ArR (K:PySem.W.Frag) (F H:Hp) (A:Nat → List Addr) (R:List Nat) (σ:L2.St):List V → List Ar → Prop
 | [],[]=>True
 | v :: vs,.d d :: r=>Vw K F H A R v d ∧ ArR K F H A R σ vs r
 | v :: vs,.io i :: r=>σ[i]? = some (some v) ∧ ArR K F H A R σ vs r
 | _,_=>False
def CV (X:Cx) (es:List Expr) (f:List Sl → Option (List Ar × List Sl)) (R M:List Nat):Prop :=
 ∃ t,PA X es t ∧ ∀ (Y:Fx) (F H:Hp) (δ:List Sl) (σ:L2.St) (A:Nat → List Addr),SR X.K Y F H δ σ A → ∀ (as:List Ar) (δ':List Sl),f δ = some (as,δ') → ∀ Q:List V → Hp → Prop,
  (∀ vs F' H',Stp A M F H F' H' → SR X.K Y F' H' δ' σ A → ArR X.K F' H' A R σ vs as → Q vs H') → t σ H Q
def Ve:List Sl → Option (List Ar × List Sl):=fun δ=>some ([],δ)
def Xn (fa:List Sl → Option (D × List Sl)) (fr:List Sl → Option (List Ar × List Sl)):List Sl → Option (List Ar × List Sl):=fun δ=>(fa δ).bind fun p=>(fr p.2).map fun q=>(.d p.1 :: q.1,q.2)
def Q2P (i:Nat) (δ:List Sl):Bool:=match δ[i]? with
 | some s=>Vu s
 | none=>false
def kIo (i:Nat) (fr:List Sl → Option (List Ar × List Sl)):List Sl → Option (List Ar × List Sl):=fun δ=>if Q2P i δ then (fr δ).map fun q=>(.io i :: q.1,q.2) else none
section
variable {X:Cx}
theorem ArR.mono {K:PySem.W.Frag} {F H:Hp} {A:Nat → List Addr} {R R':List Nat} {σ:L2.St} (s:∀ i ∈ R,i ∈ R'):∀ {vs:List V} {as:List Ar},ArR K F H A R σ vs as → ArR K F H A R' σ vs as
 | [],[],_=>trivial
 | v :: vs,.d d :: r,⟨h,t⟩=>⟨h.mono s,ArR.mono s t⟩
 | v :: vs,.io i :: r,⟨h,t⟩=>⟨h,ArR.mono s t⟩
 | [],_ :: _,h=>h.elim
 | _ :: _,[],h=>h.elim
theorem Q72:CV X [] Ve [] []:=by
 refine ⟨_,pa_nil,fun Y F H δ σ A S d' δ' e Q k=>?_⟩
 cases e
 exact k _ _ _ Stp.refl S trivial
theorem Q3B {a:Expr} {es:List Expr} {fa fr} {Ra Rr Ma Mr:List Nat} (ha:EV X a fa Ra Ma) (hr:CV X es fr Rr Mr) (dj:∀ i ∈ Ra,i ∉ Mr:=by decide) (hs:starEach (a :: es) X.env = (false,eval a X.env) :: starEach es X.env:=by rfl):CV X (a :: es) (Xn fa fr) (Ra ++ Rr) (Ma ++ Mr):=by
 obtain ⟨ta,pa,qa⟩:=ha
 obtain ⟨tb,pb,qb⟩:=hr
 refine ⟨_,pa_cons pa pb hs,fun Y F H δ σ A S ds δ' e Q k=>?_⟩
 unfold Xn at e
 cases e1:fa δ with
 | none=>rw [e1] at e; cases e
 | some p =>
  obtain ⟨d,δ1⟩:=p
  rw [e1] at e
  simp only [Q1] at e
  cases e2:fr δ1 with
  | none=>rw [e2] at e; cases e
  | some q =>
   obtain ⟨r,δ2⟩:=q
   rw [e2] at e
   cases e
   refine qa Y F H δ σ A S d δ1 e1 _ fun x F1 H1 st1 S1 r1=>?_
   refine qb Y F1 H1 δ1 σ A S1 r _ e2 _ fun y F2 H2 st2 S2 r2=>?_
   exact k _ F2 H2 (st1.trans S1 st2) S2 ⟨(r1.step S1 st2 dj).mono fun i hi=>Q7 _ hi,r2.mono fun i hi=>Q8 _ hi⟩
theorem Q8J {K:PySem.W.Frag} {F H:Hp} {s:Sl} {v:Option V} {B:List Addr} (h:Vy K F H s v B) (n:Yo s = true):∃ p,v = some (.ref p):=by
 cases s with
 | no=>cases n
 | fz d=>cases n
 | ow d=>obtain ⟨p,e,_⟩:=h; exact ⟨p,e⟩
 | lk d=>obtain ⟨p,e,_⟩:=h; exact ⟨p,e⟩
 | dk _ _ _=>obtain ⟨p,q,e,_⟩:=h; exact ⟨p,e⟩
 | ob _ _=>obtain ⟨p,q,_,_,e,_⟩:=h; exact ⟨p,e⟩
 | dl _=>obtain ⟨p,q,_,e,_⟩:=h; exact ⟨p,e⟩
 | ab=>cases n
 | xv _=>cases n
 | scr _=>cases n
theorem Q9x {i:Nat} {x:Str} {pos:Pos} {es:List Expr} {fr} {R M:List Nat} (n:Nm X i x) (hr:CV X es fr R M) (hs:starEach (.Name x pos :: es) X.env = (false,eval (.Name x pos) X.env) :: starEach es X.env:=by rfl):CV X (.Name x pos :: es) (kIo i fr) R M:=by
 obtain ⟨tb,pb,qb⟩:=hr
 refine ⟨_,pa_cons n.pe pb hs,fun Y F H δ σ A S ds δ' e Q k=>?_⟩
 unfold kIo at e
 split at e
 ·rename_i ho
  cases e2:fr δ with
  | none=>rw [e2] at e; cases e
  | some q =>
   obtain ⟨r,δ2⟩:=q
   rw [e2] at e
   cases e
   unfold Q2P at ho
   split at ho
   ·rename_i s hs'
    obtain ⟨p,ep⟩:=Q8J (S.slot i s hs') (Q4L ho)
    refine ⟨.ref p,Yr ep,?_⟩
    exact qb Y F H δ σ A S r _ e2 _ fun y F2 H2 st2 S2 r2=>k _ F2 H2 st2 S2 ⟨Yr ep,r2⟩
   ·cases ho
 ·cases e
def ios:List Ar → List Nat
 | []=>[]
 | .d _ :: r=>ios r
 | .io i :: r=>i :: ios r
def Q3R (δ:List Sl):Ar → Sl
 | .d d=>.fz d
 | .io i=>δ[i]?.getD .no
def Yl:List Ar → List Sl → List Sl → List Sl
 | .io i :: r,b :: s,δ=>Yl r s (δ.set i b)
 | .d _ :: r,_ :: s,δ=>Yl r s δ
 | _,_,δ=>δ
def Q5B:Sl → Bool
 | .dk _ _ _=>true
 | _=>false
def Q0b (R:List Nat) (δ:List Sl) (as:List Ar):Bool:=decide ((ios as).Nodup) && (ios as).all (fun i=>Q2P i δ && !(R.contains i) && (R.isEmpty || (match δ[i]? with | some s=>Q5B s | none=>false)))
def Vn (R:List Nat):List Ar → List Sl → Bool
 | .io _ :: r,b :: s=>Vu b && (R.isEmpty || Q5B b) && Vn R r s
 | .d _ :: r,_ :: s=>Vn R r s
 | [],[]=>true
 | _,_=>false
def Y6 (R:List Nat) (flat:Bool) (φ:List Sl → Option (D × List Sl)) (f:List Sl → Option (List Ar × List Sl)):List Sl → Option (D × List Sl):=fun δ=>(f δ).bind fun p =>
 if Q0b R p.2 p.1 then (φ (p.1.map (Q3R p.2))).bind fun q=>if Vn R p.1 q.2 && (R.isEmpty || (flat && noL q.1)) then some (q.1,Yl p.1 q.2 p.2) else none else none
end
section
variable {K:PySem.W.Frag} {Y:Fx} {F H:Hp} {δ:List Sl} {σ:L2.St} {A:Nat → List Addr} {R:List Nat}
def W4 (A:Nat → List Addr) (as:List Ar):Nat → List Addr:=fun j=>match as[j]? with
 | some (.io i)=>A i
 | _=>[]
theorem Yc {as:List Ar} {i:Nat}:i ∈ ios as ↔ ∃ j:Nat,as[j]? = some (Ar.io i):=by
 induction as with
 | nil=>simp [ios]
 | cons a r ih =>
  cases a with
  | d d =>
   rw [show ios (.d d :: r) = ios r from rfl,ih]
   constructor
   ·rintro ⟨j,h⟩
    exact ⟨j + 1,h⟩
   ·rintro ⟨j,h⟩
    cases j with
    | zero=>cases h
    | succ j=>exact ⟨j,h⟩
  | io k =>
   rw [show ios (.io k :: r) = k :: ios r from rfl,Ql,ih]
   constructor
   ·rintro (rfl | ⟨j,h⟩)
    ·exact ⟨0,rfl⟩
    ·exact ⟨j + 1,h⟩
   ·rintro ⟨j,h⟩
    cases j with
    | zero=>cases h; exact .inl rfl
    | succ j=>exact .inr ⟨j,h⟩
theorem Q5i {as:List Ar} (h:(ios as).Nodup):∀ {j k i:Nat},as[j]? = some (.io i) → as[k]? = some (.io i) → j = k:=by
 induction as with
 | nil=>intro j k i e; simp at e
 | cons a r ih =>
  intro j k i e1 e2
  cases a with
  | d d =>
   cases j with
   | zero=>cases e1
   | succ j =>
    cases k with
    | zero=>cases e2
    | succ k=>rw [ih h e1 e2]
  | io m =>
   rw [show ios (.io m :: r) = m :: ios r from rfl,Jv] at h
   cases j with
   | zero =>
    cases e1
    cases k with
    | zero=>rfl
    | succ k=>exact absurd (Yc.mpr ⟨k,e2⟩) h.1
   | succ j =>
    cases k with
    | zero =>
     cases e2
     exact absurd (Yc.mpr ⟨j,e1⟩) h.1
    | succ k=>rw [ih h.2 e1 e2]
theorem ArR.get:∀ {vs:List V} {as:List Ar} {j:Nat} {a:Ar},ArR K F H A R σ vs as → as[j]? = some a → ∃ v,vs[j]? = some v ∧ (match a with | .d d=>Vw K F H A R v d | .io i=>σ[i]? = some (some v))
 | [],[],_,_,_,e=>by simp at e
 | v :: vs,.d d :: r,0,_,⟨h,t⟩,e=>by cases e; exact ⟨v,rfl,h⟩
 | v :: vs,.io i :: r,0,_,⟨h,t⟩,e=>by cases e; exact ⟨v,rfl,h⟩
 | v :: vs,.d d :: r,j + 1,a,⟨h,t⟩,e=>ArR.get (j:=j) t e
 | v :: vs,.io i :: r,j + 1,a,⟨h,t⟩,e=>ArR.get (j:=j) t e
 | [],_ :: _,_,_,h,_=>h.elim
 | _ :: _,[],_,_,h,_=>h.elim
theorem ArR.length:∀ {vs:List V} {as:List Ar},ArR K F H A R σ vs as → vs.length = as.length
 | [],[],_=>rfl
 | v :: vs,.d d :: r,⟨h,t⟩=>congrArg (· + 1) t.length
 | v :: vs,.io i :: r,⟨h,t⟩=>congrArg (· + 1) t.length
 | [],_ :: _,h=>h.elim
 | _ :: _,[],h=>h.elim
theorem Zi {as:List Ar} (h:Q0b R δ as = true) {i:Nat} (hi:i ∈ ios as):∃ s,δ[i]? = some s ∧ Vu s = true ∧ i ∉ R ∧ (R = [] ∨ Q5B s = true):=by
 unfold Q0b at h
 rw [Q4] at h
 have:=Qh.mp h.2 i hi
 simp only [Q4,J3,Bool.not_eq_true',List.isEmpty_iff] at this
 obtain ⟨⟨h1,h2⟩,h3⟩:=this
 unfold Q2P at h1
 cases e:δ[i]? with
 | none=>rw [e] at h1; cases h1
 | some s =>
  rw [e] at h1 h3
  exact ⟨s,rfl,h1,by simpa using h2,h3⟩
theorem Q4o {as:List Ar} (h:Q0b R δ as = true):(ios as).Nodup:=by
 unfold Q0b at h
 rw [Q4] at h
 exact of_decide_eq_true h.1
theorem SR.args {vs:List V} {as:List Ar} (S:SR K Y F H δ σ A) (ok:Q0b R δ as = true) (r:ArR K F H A R σ vs as):SR K Fx.any (ex R A F H) H (as.map (Q3R δ)) (vs.map some) (W4 A as):=by
 have nd:=Q4o ok
 have mem:∀ j a,a ∈ W4 A as j → ∃ i,as[j]? = some (.io i) ∧ a ∈ A i:=fun j a h=>by
  unfold W4 at h
  split at h
  ·rename_i i e
   exact ⟨i,e,h⟩
  ·simp at h
 refine ⟨by rw [Q3,Q3,r.length],fun j s e=>?_,fun j e=>?_,fun j k a h1 h2=>?_,fun j a h=>?_,fun _ _ _ _=>rfl,Q0k S,fun i hi=>?_,fun i hi=>?_,fun _ _ e=>?_,fun _ _ _=>rfl,fun _ _ e=>?_,fun _ h=>(by rcases h with h | h <;> cases h),fun j c fs e=>?_,fun _ h=>by cases h⟩
 ·rw [Qd] at e
  cases e1:as[j]? with
  | none=>rw [e1] at e; cases e
  | some a =>
   rw [e1] at e
   cases e
   obtain ⟨v,v1,v2⟩:=r.get e1
   have jv:jn (vs.map some)[j]? = some v:=by
    rw [Qd,v1]
    rfl
   rw [jv]
   cases a with
   | d d =>
    have:W4 A as j = []:=by unfold W4; rw [e1]
    rw [this]
    exact ⟨rfl,v,rfl,v2.ex S⟩
   | io i =>
    have:W4 A as j = A i:=by unfold W4; rw [e1]
    rw [this]
    obtain ⟨s,h1,h2,_⟩:=Zi ok (Yc.mpr ⟨j,e1⟩)
    show Vy K _ H (δ[i]?.getD .no) (some v) (A i)
    rw [h1]
    have q:=S.slot i s h1
    rw [v2] at q
    exact q.mono (Q1i S) fun _ _=>rfl
 ·rw [Qd] at e
  cases e1:as[j]? with
  | none=>unfold W4; rw [e1]
  | some a=>rw [e1] at e; cases e
 ·obtain ⟨i,e1,m1⟩:=mem j a h1
  obtain ⟨i',e2,m2⟩:=mem k a h2
  have:=S.dis i i' a m1 m2
  subst this
  exact Q5i nd e1 e2
 ·obtain ⟨i,e1,m1⟩:=mem j a h
  obtain ⟨s,h1,h2,h3,_⟩:=Zi ok (Yc.mpr ⟨j,e1⟩)
  unfold ex
  rw [if_neg]
  ·exact S.hid i a m1
  ·rintro ⟨i',hi',m2⟩
   have:=S.dis i i' a m1 m2
   subst this
   exact h3 hi'
 ·cases hi
 ·cases hi
 ·cases e
 ·cases e
 ·rw [Qd] at e
  cases e1:as[j]? with
  | none=>rw [e1] at e; cases e
  | some a =>
   rw [e1] at e
   cases a with
   | d d=>cases e
   | io i =>
    obtain ⟨s,h1,h2,_⟩:=Zi ok (Yc.mpr ⟨j,e1⟩)
    have e:some (δ[i]?.getD .no) = some (Sl.ob c fs):=e
    rw [h1] at e
    cases e
    cases h2
def Q0l (R:List Nat) (A:Nat → List Addr) (F:Hp):Hp:=fun a=>if ∃ i ∈ R,a ∈ A i then none else F a
theorem Q0R {F:Hp}:Q0l [] A F = F:=by
 funext a
 unfold Q0l
 rw [if_neg]
 simp
theorem W3:∀ {as:List Ar} {s δ:List Sl},(Yl as s δ).length = δ.length
 | [],_,_=>by simp [Yl]
 | .d _ :: r,[],_=>by simp [Yl]
 | .io _ :: r,[],_=>by simp [Yl]
 | .d _ :: r,b :: s,δ=>W3 (as:=r) (s:=s) (δ:=δ)
 | .io i :: r,b :: s,δ=>by rw [show Yl (.io i :: r) (b :: s) δ = Yl r s (δ.set i b) from rfl,W3,Jl]
theorem Wc:∀ {as:List Ar} {s δ:List Sl} {i:Nat},i ∉ ios as → (Yl as s δ)[i]? = δ[i]?
 | [],_,_,_,_=>by simp [Yl]
 | .d _ :: r,[],_,_,_=>by simp [Yl]
 | .io _ :: r,[],_,_,_=>by simp [Yl]
 | .d _ :: r,b :: s,δ,i,h=>by
  show (Yl r s δ)[i]? = δ[i]?
  exact Wc (as:=r) h
 | .io k :: r,b :: s,δ,i,h=>by
  rw [show ios (.io k :: r) = k :: ios r from rfl,Ql,not_or] at h
  rw [show Yl (.io k :: r) (b :: s) δ = Yl r s (δ.set k b) from rfl,Wc h.2,Qk (Ne.symm h.1)]
theorem Q0T:∀ {as:List Ar} {s δ:List Sl} {i j:Nat} {b:Sl},(ios as).Nodup → as[j]? = some (.io i) → s[j]? = some b → i < δ.length → (Yl as s δ)[i]? = some b
 | [],_,_,_,_,_,_,e,_,_=>by simp at e
 | .d _ :: r,[],_,_,_,_,_,_,e,_=>by simp at e
 | .io _ :: r,[],_,_,_,_,_,_,e,_=>by simp at e
 | .d _ :: r,c :: s,δ,i,j,b,nd,e,e2,hi=>by
  cases j with
  | zero=>cases e
  | succ j=>exact Q0T (as:=r) (s:=s) (j:=j) nd e e2 hi
 | .io k :: r,c :: s,δ,i,j,b,nd,e,e2,hi=>by
  rw [show ios (.io k :: r) = k :: ios r from rfl,Jv] at nd
  rw [show Yl (.io k :: r) (c :: s) δ = Yl r s (δ.set k c) from rfl]
  cases j with
  | zero =>
   cases e
   cases e2
   rw [Wc nd.1,Qp hi]
  | succ j=>exact Q0T (as:=r) (s:=s) (j:=j) nd.2 e e2 (by rw [Jl]; exact hi)
theorem Q03:∀ {as:List Ar} {s:List Sl} {i j:Nat} {b:Sl},Vn R as s = true → as[j]? = some (.io i) → s[j]? = some b → Vu b = true ∧ (R = [] ∨ Q5B b = true)
 | [],_,_,_,_,_,e,_=>by simp at e
 | .d _ :: r,[],_,_,_,h,_,_=>by cases h
 | .io _ :: r,[],_,_,_,h,_,_=>by cases h
 | .d _ :: r,c :: s,i,j,b,h,e,e2=>by
  cases j with
  | zero=>cases e
  | succ j=>exact Q03 (as:=r) (s:=s) (j:=j) h e e2
 | .io k :: r,c :: s,i,j,b,h,e,e2=>by
  rw [show Vn R (.io k :: r) (c :: s) = (Vu c && (R.isEmpty || Q5B c) && Vn R r s) from rfl] at h
  simp only [Q4,J3,List.isEmpty_iff] at h
  cases j with
  | zero =>
   cases e2
   exact h.1
  | succ j=>exact Q03 (as:=r) (s:=s) (j:=j) h.2 e e2
theorem Kf:∀ {as:List Ar} {s:List Sl},Vn R as s = true → s.length = as.length
 | [],[],_=>rfl
 | [],_ :: _,h=>by cases h
 | .d _ :: r,[],h=>by cases h
 | .io _ :: r,[],h=>by cases h
 | .d _ :: r,c :: s,h=>congrArg (· + 1) (Kf (as:=r) (s:=s) h)
 | .io k :: r,c :: s,h=>by
  rw [show Vn R (.io k :: r) (c :: s) = (Vu c && (R.isEmpty || Q5B c) && Vn R r s) from rfl] at h
  simp only [Q4] at h
  exact congrArg (· + 1) (Kf (as:=r) (s:=s) h.2)
theorem SR.behind {vs:List V} {as:List Ar} {F2 H2:Hp} {outs:List Sl} (S:SR K Y F H δ σ A) (ok:Q0b R δ as = true) (r:ArR K F H A R σ vs as) (st:Stp (W4 A as) (Jn as.length) (ex R A F H) H F2 H2)
  (S2:SR K Fx.any F2 H2 outs (vs.map some) (W4 A as)) (oo:Vn R as outs = true):Stp A (ios as) F H (Q0l R A F2) H2 ∧ SR K Y (Q0l R A F2) H2 (Yl as outs δ) σ A ∧ Same (Q0l R A F2) F2:=by
 have nd:=Q4o ok
 have nR:∀ a,F a ≠ none → ¬ ∃ i ∈ R,a ∈ A i:=fun a h=>by
  rintro ⟨i,_,m⟩
  exact h (S.hid i a m)
 have notarg:∀ i a,a ∈ A i → i ∉ ios as → ∀ j ∈ Jn as.length,a ∉ W4 A as j:=fun i a m hi j _ h=>by
  unfold W4 at h
  split at h
  ·rename_i i' e
   have:=S.dis i i' a m h
   subst this
   exact hi (Yc.mpr ⟨j,e⟩)
  ·simp at h
 have keep:∀ a o,H a = some o → (∀ i ∈ ios as,a ∉ A i) → H2 a = some o:=fun a o e n=>st.kp a o e fun j _ h=>by
  unfold W4 at h
  split at h
  ·rename_i i' e'
   exact n i' (Yc.mpr ⟨j,e'⟩) h
  ·simp at h
 have sU:Same (Q0l R A F2) F2:=fun a o e=>by
  unfold Q0l at e
  split at e
  ·cases e
  ·exact e
 have sF:Same F (Q0l R A F2):=fun a o e=>by
  have c:=nR a (by rw [e]; simp)
  have q:ex R A F H a = some o:=(if_neg c:ex R A F H a = F a).trans e
  show Q0l R A F2 a = some o
  unfold Q0l
  rw [if_neg c]
  exact st.f a o q
 have newH:∀ a,F a = none → Q0l R A F2 a ≠ none → H a = none:=fun a e n=>by
  unfold Q0l at n
  split at n
  ·exact absurd rfl n
  ·rename_i c
   have q:ex R A F H a = none:=(if_neg c:ex R A F H a = F a).trans e
   exact st.nw a q n
 have hidU:∀ i a,a ∈ A i → Q0l R A F2 a = none:=fun i a m=>by
  cases q:Q0l R A F2 a with
  | none=>rfl
  | some o =>
   have:=newH a (S.hid i a m) (by rw [q]; simp)
   exact absurd this (S.isSome m)
 have back_at:∀ {i},i ∈ ios as → ∃ b,(Yl as outs δ)[i]? = some b ∧ Vu b = true:=fun {i} c=>by
  obtain ⟨j,ej⟩:=Yc.mp c
  obtain ⟨s0,h1,h2,h3,h4⟩:=Zi ok c
  have hj:j < as.length:=(Q5.mp ej).1
  have lo:=Kf oo
  obtain ⟨b,eb⟩:∃ b,outs[j]? = some b:=⟨_,Q6 (by omega)⟩
  exact ⟨b,Q0T (δ:=δ) nd ej eb (Q5.mp h1).1,(Q03 oo ej eb).1⟩
 refine ⟨⟨sF,newH,keep⟩,⟨by rw [W3]; exact S.len,fun i s e=>?_,fun i e=>?_,S.dis,hidU,S.new,sU.trans S2.sub,S.fix,S.ioA,fun a o e n=>?_,fun a e n=>?_,S.f0.trans sF,S.lio,fun i c0 fs e=>?_,fun i hi e=>?_⟩,sU⟩
 ·by_cases c:i ∈ ios as
  ·obtain ⟨j,ej⟩:=Yc.mp c
   obtain ⟨s0,h1,h2,h3,h4⟩:=Zi ok c
   have hj:j < as.length:=(Q5.mp ej).1
   have lo:=Kf oo
   obtain ⟨b,eb⟩:∃ b,outs[j]? = some b:=⟨_,Q6 (by omega)⟩
   have:=Q0T (δ:=δ) nd ej eb (Q5.mp h1).1
   have e:s = b:=Qs.inj (e.symm.trans this)
   subst e
   obtain ⟨o1,o2⟩:=Q03 oo ej eb
   have q:=S2.slot j s eb
   obtain ⟨v,v1,v2⟩:=r.get ej
   have jv:jn (vs.map some)[j]? = some v:=by
    rw [Qd,v1]
    rfl
   have eA:W4 A as j = A i:=by unfold W4; rw [ej]
   rw [jv,eA] at q
   rw [v2]
   rcases o2 with o2 | o2
   ·subst o2
    rw [Q0R]
    exact q
   ·cases s with
    | dk cs m n=>exact q
    | _=>cases o2
  ·rw [Wc c] at e
   refine (S.slot i s e).mono sF fun a ha=>?_
   obtain ⟨xs,q⟩:=(S.there ha).some
   rw [q,keep a _ q fun j hj z=>c (by rw [S.dis i j a ha z]; exact hj)]
 ·have:δ[i]? = none:=by
   have:=Qv.mp e
   rw [W3] at this
   exact Qn this
  exact S.out i this
 ·refine keep a o (S.kp a o e n) fun i hi m=>?_
  cases c:Y.lt i with
  | true =>
   have:=(S.fix i c).2
   rw [this] at m
   exact n i c m
  | false =>
   rw [S.new i a m c] at e
   cases e
 ·cases q:F a with
  | some o=>exact S.nw a e (by rw [q]; simp)
  | none=>exact S.fresh0 (newH a q n)
 ·have c:i ∉ ios as:=fun c=>by
   obtain ⟨b,h1,h2⟩:=back_at c
   rw [e] at h1
   cases h1
   cases h2
  rw [Wc c] at e
  obtain ⟨h1,h2⟩:=S.ob i c0 fs e
  refine ⟨h1,fun p C dx fvs e1 e2=>h2 p C dx fvs e1 ?_⟩
  have hp:=S.obp e e1
  obtain ⟨xs,q⟩:=(S.there hp).some
  rw [q,← e2,keep p _ q fun j hj z=>c (by rw [S.dis i j p hp z]; exact hj)]
 ·by_cases c:i ∈ ios as
  ·obtain ⟨b,h1,h2⟩:=back_at c
   rw [e] at h1
   cases h1
   cases h2
  ·rw [Wc c] at e
   exact S.vno i hi e
end
section
variable {X:Cx} {x:Str} {p pos:Pos} {e:Expr} {es:List Expr} {R M:List Nat} {f:List Sl → Option (List Ar × List Sl)} {φ:List Sl → Option (D × List Sl)}
structure Kn (X:Cx) (x:Str) (n:Nat) (fr:Fr) (φ:List Sl → Option (D × List Sl)):Prop where
 ex:∃ (CX:CXT) (k:Nat) (a:Addr) (fd:FuncData) (ps:List Str),FnG X.prog X.w X.K X.mg X.base CX k a fd ps (spF X.K ps.length fr φ) ∧ ps.length = n ∧ Room k X.A ∧ X.mg x = some (.ref a) ∧ PySem.W.keepIn X.K (.ref a) = true ∧ Binds X.K fd ps [] ∧ Passes CX X E0
 gd:X.A.guards = some []
 gl:Gl X x
 db:(x == ("__debug__":Str)) = false
theorem Q2u {flat:Bool} {δ δ':List Sl} {z:D} (h:Y6 R flat φ f δ = some (z,δ')):∃ as δ1 outs,f δ = some (as,δ1) ∧ Q0b R δ1 as = true ∧ φ (as.map (Q3R δ1)) = some (z,outs) ∧ Vn R as outs = true ∧ (R = [] ∨ noL z = true) ∧ δ' = Yl as outs δ1:=by
 unfold Y6 at h
 cases e1:f δ with
 | none=>rw [e1] at h; cases h
 | some w =>
  obtain ⟨as,δ1⟩:=w
  rw [e1] at h
  simp only [Q1] at h
  split at h
  ·rename_i ok
   cases e2:φ (as.map (Q3R δ1)) with
   | none=>rw [e2] at h; cases h
   | some w =>
    obtain ⟨d,outs⟩:=w
    rw [e2] at h
    simp only [Q1] at h
    split at h
    ·rename_i oo
     cases h
     simp only [Q4,J3,List.isEmpty_iff] at oo
     exact ⟨as,δ1,outs,rfl,ok,e2,oo.1,oo.2.imp id (·.2),rfl⟩
    ·cases h
  ·cases h
theorem Q8b {n:Nat} {flat:Bool} {B:List Nat} (kn:Kn X x n .n φ) (hf:∀ δ as δ',f δ = some (as,δ') → as.length = n ∧ ∀ i ∈ ios as,i ∈ B) (ha:CV X (e :: es) f R M) (h1:starEach (e :: es) X.env = (false,eval e X.env) :: starEach es X.env:=by rfl) (h2:(backTo pos (starEach es X.env)).any (·.1) = false:=by rfl) :
  EV X (.Call (.Name x p) (e :: es) [] pos) (Y6 R flat φ f) [] (M ++ B):=by
 obtain ⟨CX,k,a,fd,ps,Fn,hn,hR,hm,hk,hb,hx⟩:=kn.ex
 obtain ⟨t,pa,q⟩:=ha
 refine ⟨_,Fn.pe kn.gd hR kn.gl hm hk hb hx pa kn.db h1 h2,fun Y F H δ σ A S z δ' e Q kk=>?_⟩
 obtain ⟨as,δ1,outs,e1,ok,e2,oo,ef,rfl⟩:=Q2u e
 obtain ⟨hl,hB⟩:=hf _ _ _ e1
 refine q Y F H δ σ A S as δ1 e1 _ fun vs F1 H1 st S1 r=>?_
 show spF X.K ps.length .n φ (vs ++ []) H1 Q E0
 rw [Qz]
 refine ⟨ex R A F1 H1,as.map (Q3R δ1),W4 A as,by rw [Q3,hl,hn],S1.args ok r,z,outs,e2,fun v F2 H2 st2 S2 rv=>?_⟩
 rw [hn,← hl] at st2
 obtain ⟨st3,S3,sU⟩:=S1.behind ok r st2 S2 oo
 refine kk v _ H2 ((st.trans S1 st3).mono fun i hi=>?_) S3 (.inl ?_)
 ·rcases Qj.mp hi with z | z
  ·exact Q7 _ z
  ·exact Q8 _ (hB i z)
 ·have rv:Rp X.K F2 v z:=rv
  rcases ef with ef | ef
  ·subst ef
   rw [Q0R]
   exact rv
  ·refine rv.flat (fun b xs h=>?_) ef
   rcases h with h | h
   ·refine .inl ?_
    have nb:¬ ∃ i ∈ R,b ∈ A i:=by
     rintro ⟨i,hi,m⟩
     have hb:∀ o,H1 b = some o → F2 b = some o:=fun o eo=>st2.f b o ((if_pos ⟨i,hi,m⟩:ex R A F1 H1 b = H1 b).trans eo)
     rcases S1.there m with ⟨ys,q⟩ | ⟨ys,q⟩ | ⟨_,ys,q⟩ | ⟨_,_,ys,q⟩ | ⟨ys,q⟩
     ·have:=hb _ q
      rcases h with h | ⟨o,h⟩ <;> rw [this] at h <;> cases h
     ·have:=hb _ q
      rcases h with h | ⟨o,h⟩ <;> rw [this] at h <;> cases h
     ·have:=hb _ q
      rcases h with h | ⟨o,h⟩ <;> rw [this] at h <;> cases h
     ·have:=hb _ q
      rcases h with h | ⟨o,h⟩ <;> rw [this] at h <;> cases h
     ·have:=hb _ q
      rcases h with h | ⟨o,h⟩ <;> rw [this] at h <;> cases h
    have q:Q0l R A F2 b = F2 b:=if_neg nb
    unfold Rd at h ⊢
    rw [q]
    exact h
   ·exact .inr h
theorem Q9d {n:Nat} {flat:Bool} {B:List Nat} (kn:Kn X x n .l φ) (hf:∀ δ as δ',f δ = some (as,δ') → as.length = n ∧ ∀ i ∈ ios as,i ∈ B) (ha:CV X (e :: es) f [] M) (h1:starEach (e :: es) X.env = (false,eval e X.env) :: starEach es X.env:=by rfl) (h2:(backTo pos (starEach es X.env)).any (·.1) = false:=by rfl) :
  NV X (.Call (.Name x p) (e :: es) [] pos) (Y6 [] flat φ f) (M ++ B):=by
 obtain ⟨CX,k,a,fd,ps,Fn,hn,hR,hm,hk,hb,hx⟩:=kn.ex
 obtain ⟨t,pa,q⟩:=ha
 refine ⟨_,Fn.pe kn.gd hR kn.gl hm hk hb hx pa kn.db h1 h2,fun Y F H δ σ A S z δ' e Q kk=>?_⟩
 obtain ⟨as,δ1,outs,e1,ok,e2,oo,ef,rfl⟩:=Q2u e
 obtain ⟨hl,hB⟩:=hf _ _ _ e1
 refine q Y F H δ σ A S as δ1 e1 _ fun vs F1 H1 st S1 r=>?_
 show spF X.K ps.length .l φ (vs ++ []) H1 Q E0
 rw [Qz]
 refine ⟨ex [] A F1 H1,as.map (Q3R δ1),W4 A as,by rw [Q3,hl,hn],S1.args ok r,z,outs,e2,fun v F2 H2 st2 S2 rv=>?_⟩
 rw [hn,← hl] at st2
 obtain ⟨st3,S3,sU⟩:=S1.behind ok r st2 S2 oo
 rw [Q0R] at st3 S3
 obtain ⟨b,rfl,nb,fb,ob⟩:=rv
 refine kk b _ H2 ((st.trans S1 st3).mono fun i hi=>?_) S3 (Q6y st S1 nb) fb ob
 rcases Qj.mp hi with z | z
 ·exact Q7 _ z
 ·exact Q8 _ (hB i z)
end
end Z
namespace Z
open PySem PySem.Spec PyProof.Rows L2
section
variable {X:Cx} {pos:Pos}
def tyD:D → String
 | .none => "NoneType"
 | .bool _ => "bool"
 | .int _ => "int"
 | .str _ => "str"
 | .list _ => "list"
 | .tuple _ => "tuple"
 | .dict _ => "dict"
theorem Rp.tyx {K:PySem.W.Frag} {G H:Hp} {v:V} {d:D} (sG:Same G H) (h:Rp K G v d):TyX K H v (.type (tyD d)):=by
 cases h with
 | non=>exact .base .non
 | bl b=>exact .base (.bl b)
 | int i=>exact .base (.int i)
 | str x=>exact .base (.str x)
 | lst e _=>exact .base (.lst (sG _ _ e))
 | dic e _=>exact .fDict (sG _ _ e)
 | tup e _ =>
  rcases e with (e | ⟨o,e⟩) | ⟨o,its,n,e1,e2,_⟩
  ·exact .base (.tup (sG _ _ e))
  ·exact .fTuple (sG _ _ e)
  ·exact .kTuple e1 e2
def Q9p (T:String) (d:D):Bool:=match d with
 | .none=>T == "NoneType"
 | .bool _=>T == "bool" || T == "int"
 | .int _=>T == "int"
 | .str _=>T == "str"
 | .list _=>T == "list"
 | .tuple _=>T == "tuple"
 | .dict _=>T == "dict"
def QaD (T:String):Bool:=["int", "bool", "str", "list", "tuple", "dict"].contains T
theorem Q8n {T:String} (hT:QaD T = true:=by rfl) (d:D):kitB (tyD d) T = some (Q9p T d):=by
 have:T ∈ ["int", "bool", "str", "list", "tuple", "dict"]:=by simpa [QaD] using hT
 simp only [Ql,Ji,or_false] at this
 rcases this with rfl | rfl | rfl | rfl | rfl | rfl <;> cases d <;> dsimp only [tyD,Q9p] <;> decide +kernel
def Q61 (T:String) (d:D):Option D:=some (.bool (Q9p T d))
theorem Q2m {T:String} {x T':Str} {a:Expr} {fa} {R M:List Nat} {p p2:Pos} (hT:QaD T = true:=by rfl) (b:Bn X x (.builtin "isinstance")) (c:Bn X T' (.type T)) (ha:EV X a fa R M)
  (h1:starEach [a,.Name T' p2] X.env = (false,eval a X.env) :: starEach [.Name T' p2] X.env:=by rfl) (h2:(backTo pos (starEach [.Name T' p2] X.env)).any (·.1) = false:=by rfl) (h3:starEach [.Name T' p2] X.env = [(false,eval (.Name T' p2) X.env)]:=by rfl) :
  EV X (.Call (.Name x p) [a,.Name T' p2] [] pos) (f1 (Q61 T) fa) [] M:=by
 obtain ⟨t,pa,q⟩:=ha
 have pT:PE X (.Name T' p2) (tC (.ty T)):=pe_bltn c.gl c.mg c.bt rfl c.nn c.db
 refine ⟨_,pe_callB call_isi b.gl b.mg b.bt (pa_cons pa (pa_cons pT pa_nil h3) h1) b.nn b.db h1 h2,fun Y F H δ σ A S z δ' e Q k=>?_⟩
 obtain ⟨d,e1,e2⟩:=Q5p e
 refine q Y F H δ σ A S d δ' e1 _ fun v F1 H1 st S1 r1=>?_
 refine ⟨v,.ty T,.type (tyD d),.type T,Q9p T d,rfl,.ty T,(r1.ex S1).tyx (Q0k S1),kit_ty (Q8n hT d),?_⟩
 cases e2
 exact k _ F1 H1 st S1 (.inl (.bl _))
def W8:List D → Option (List Bool)
 | []=>some []
 | .bool b :: r=>(W8 r).map (b :: ·)
 | _=>none
theorem Q0M:∀ {ds:List D} {bs:List Bool},W8 ds = some bs → ds = bs.map Qg
 | [],bs,h=>by cases h; rfl
 | d :: r,bs,h=>by
  cases d <;> simp only [W8] at h <;> try (cases h; done)
  cases e:W8 r with
  | none=>rw [e] at h; cases h
  | some cs =>
   rw [e] at h
   cases h
   rw [Q0M e]
   rfl
theorem Rps.bools {K:PySem.W.Frag} {G:Hp}:∀ {vs:List V} {ns:List Bool},Rps K G vs (ns.map Qg) → vs = ns.map V.bl
 | _,[],.nil=>rfl
 | _,n :: ns,.cons h r=>by
  cases h
  rw [r.bools]
  rfl
def Q6P:D → Option D
 | .list ds=>(W8 ds).map fun bs=>.bool (bs.all id)
 | _=>none
theorem Q85:Q1x X (rAll X.K) (g1 Q6P):=by
 intro Y F H δ σ A R xs ds z S r hg Q k
 obtain ⟨d,rfl,hg'⟩:=Zz hg
 clear hg
 have hg:=hg'
 obtain ⟨v,rfl,rv⟩:=r.one
 unfold Q6P at hg
 split at hg
 ·rename_i ds'
  cases e:W8 ds' with
  | none=>rw [e] at hg; cases hg
  | some ns =>
   rw [e] at hg
   cases hg
   have e2:=Q0M e
   subst e2
   obtain ⟨a,ys,rfl,h1,r1⟩:=rv.list S
   have e3:=r1.bools
   subst e3
   exact ⟨a,ns,rfl,SqL.of h1,k _ F H Stp.refl S (.bl _)⟩
 ·cases hg
mutual
theorem Q4M {K:PySem.W.Frag} {G:Hp}:∀ {n:Nat} {u:Value} {v:V} {d:D},kRp K n u = some (v,d) → RelV v u ∧ Rp K G v d
 | 0,_,_,_,h=>by unfold kRp at h; cases h
 | n + 1,u,v,d,h=>by
  unfold kRp at h
  split at h
  ·cases h; exact ⟨rfl,.non⟩
  ·cases h; exact ⟨rfl,.bl _⟩
  ·cases h; exact ⟨⟨_,rfl⟩,.int _⟩
  ·cases h; exact ⟨⟨_,rfl⟩,.str _⟩
  ·rename_i a
   split at h
   ·rename_i dd its m sl e
    split at h
    ·rename_i hz
     cases e2:Q6h K n its.toList with
     | none=>rw [e2] at h; cases h
     | some p =>
      obtain ⟨vs,ds⟩:=p
      rw [e2] at h
      cases h
      obtain ⟨h1,h2⟩:=Q56 (G:=G) e2
      exact ⟨rfl,.tup (.inr ⟨_,its,m,e,rfl,rfl,hz,h1⟩) h2⟩
    ·cases h
   ·cases h
  ·cases h
theorem Q56 {K:PySem.W.Frag} {G:Hp}:∀ {n:Nat} {us:List Value} {vs:List V} {ds:List D},Q6h K n us = some (vs,ds) → Vals vs us ∧ Rps K G vs ds
 | 0,_,_,_,h=>by unfold Q6h at h; cases h
 | n + 1,us,vs,ds,h=>by
  unfold Q6h at h
  split at h
  ·cases h; exact ⟨.nil,.nil⟩
  ·rename_i u r
   split at h
   ·rename_i p q e1 e2
    obtain ⟨v1,d1⟩:=p
    obtain ⟨v2,d2⟩:=q
    cases h
    obtain ⟨h1,h2⟩:=Q4M (G:=G) e1
    obtain ⟨h3,h4⟩:=Q56 (G:=G) e2
    exact ⟨.cons h1 h3,.cons h2 h4⟩
   ·cases h
end
structure Gc (X:Cx) (x:Str) (d:D):Prop where
 ex:∃ u v,X.mg x = some u ∧ kRp X.K 40 u = some (v,d)
 db:(x == ("__debug__":Str)) = false
theorem Qbu {x:Str} {d:D} (hg:Gl X x) (c:Gc X x d):EV X (.Name x pos) (X5 d) [] []:=by
 obtain ⟨u,v,h1,h2⟩:=c.ex
 exact Q0G (pe_glob hg h1 (Q4M (G:=fun _=>none) h2).1 c.db) fun G=>(Q4M h2).2
end
end Z
namespace Z
open PySem PySem.Spec PyProof.Rows L2 RT
section
variable {prog:Program} {w:World} {A:Around} {E:Value → Shared → Prop} {s:Shared}
theorem Q7g {R:Result → Shared → Prop} {it l S:Addr} {items:Array Value} (hh:A.handled = none) (hit:s.heap.IsRevIter it l ((items.size:Int) - 1)) (hl:s.heap.IsList l items) (hne:l ≠ it) (hn:items.size ≤ sizeLine)
  (hS:s.heap.get? S = some { cls:=.type "list",data:=.seq #[] }) (hSi:S ≠ it) (hSl:S ≠ l)
  (hR:∀ (h':Heap) (tk:Nat) (acc:Array Value) (c:Nat),(∀ b o,b ≠ S → b ≠ it → s.heap.get? b = some o → h'.get? b = some o) → h'.get? S = some { cls:=.type "list",dict:=none,data:=.seq acc c,slots:=#[] } → ItemsOf (fun i v=>items[items.size - 1 - i]? = some v) acc items.size → R (.ok (.ret .none)) { s with heap:=h',toks:=tk }) :
  wpAny (model prog w) A.in1 (Builtin.«list.__init__» ⟨[.ref S,.ref it],[]⟩)
   (fun fin s'=>match fin with | .done f=>R (.ok f) s' | .again c'=>c'.quiet = true ∧ codeAny (model prog w) A c' R s') (fun e s'=>R (.error e) s') s:=by
 have W:=(Walks.listRev (prog:=prog) (w:=w) (A:=A.in1) hh it l hne items).toS
 show wpAny _ A.in1 (do let old ← Builtin.List.listItems (.ref S); Builtin.List.listUpdate (.ref S) (fun _=>#[]); letGo old.toList.reverse; Builtin.List.listExtendWith (.ref S) (.ref it) .none) _ _ s
 refine wpAny_bind ?_
 unfold Builtin.List.listItems
 refine wpAny_bind (wpAny_seqItems hS rfl (wpAny_pure ?_))
 show wpAny _ A.in1 (updateSeq S (fun _=>#[]) >>= fun _=>letGo (#[]:Array Value).toList.reverse >>= fun _=>Builtin.List.listExtendWith (.ref S) (.ref it) .none) _ _ s
 refine wpAny_bind (wpAny_updateSeq hS rfl ?_)
 have hS₂:=Heap.get?_update_self (Obj.mapSeq (fun _=>(#[]:Array Value))) hS rfl
 have oth:∀ b o,b ≠ S → s.heap.get? b = some o → (s.heap.update S (Obj.mapSeq (fun _=>(#[]:Array Value)))).get? b = some o :=
  fun b o hb e=>(Heap.get?_update_other _ _ (Ne.symm hb)).trans e
 refine wpAny_bind (wpAny_letGo ?_)
 generalize hs1:({ s with heap:=s.heap.update S (Obj.mapSeq (fun _=>(#[]:Array Value))) }:Shared) = s1
 have hit1:s1.heap.IsRevIter it l ((items.size:Int) - 1):=by
  subst hs1
  exact hit.at fun o e=>oth it o (Ne.symm hSi) e
 have hl1:s1.heap.IsList l items:=by
  subst hs1
  obtain ⟨o,e,c⟩:=hl
  exact ⟨o,oth l o (Ne.symm hSl) e,c⟩
 have hT:s1.TypeIs (.ref it) "list_reverseiterator":=Heap.IsRevIter.typeIs hit1
 have hS₁:s1.heap.get? S = some { cls:=.type "list",data:=.seq #[] }:=by
  subst hs1
  exact hS₂
 have oth1:∀ b o,b ≠ S → s.heap.get? b = some o → s1.heap.get? b = some o:=by
  subst hs1
  exact oth
 have hSf:S ∉ [it,l]:=by simp only [Ql,Ji,or_false,not_or]; exact ⟨hSi,hSl⟩
 have es:∀ h' tk,({ s with heap:=h',toks:=tk }:Shared) = { s1 with heap:=h',toks:=tk }:=by
  subst hs1
  intro h' tk
  rfl
 have h1:Builtin.List.listSameRef (.ref S) (.ref it) = false:=by simp [Builtin.List.listSameRef,hSi]
 unfold Builtin.List.listExtendWith
 refine wpAny_bind (wpAny_typeOf hT ?_)
 rw [if_neg (by rw [h1]; decide)]
 refine wpAny_bind (wpAny_pyIter_revIter hit1 ?_)
 refine wpAny_bind (wpAny_holding ?_)
 unfold Builtin.List.listLengthHint
 refine wpAny_bind (wpAny_specialOf hT nolen_lri ?_)
 show wpAny _ A.in1 (specialOf (Value.ref it) (Str.ofString "__length_hint__") >>= _) _ _ _
 refine wpAny_bind (wpAny_specialOf hT hint_lri ?_)
 generalize hid:("list_reverseiterator.__length_hint__":String) = id0
 wp_delta
 rw [show splitId id0 = some ("list_reverseiterator", "__length_hint__") from by subst hid; decide +kernel]
 subst hid
 refine wpAny_bind (wpAny_isInstance (b:=true) hT (by rw [isSubtype_type]; kernel_rfl) ?_)
 refine wpAny_pure ?_
 rw [if_neg (by decide)]
 have e0:((items.size:Nat):Int) - 1 - ((0:Nat):Int) = (items.size:Int) - 1:=by omega
 refine wpAny_pure ⟨plainId_quiet F.plain_extend_loop _,codeAny_extend_loopS W hn _ hSf _ items.size 0 _ _ _ rfl (Jh _) ⟨Jh _,by rw [e0]; exact hit1,hl1⟩ hS₁ (ItemsOf.nil _) fun s' acc' c' hm hS' hacc=>?_⟩
 rw [Moved.eq_with hm,← es]
 refine hR s'.heap s'.toks acc' c' (fun b o hb hb2 e=>hm.heap b o (fun hmem=>?_) (oth1 b o hb e)) hS' hacc
 rcases Ql.mp hmem with e' | hmem
 ·exact hb e'
 ·exact hb2 (Qt.mp hmem)
theorem Q2E {it l:Addr} {items:Array Value} {Q:Value → Shared → Prop} (hh:A.handled = none) (hit:s.heap.IsRevIter it l ((items.size:Int) - 1)) (hl:s.heap.IsList l items) (hne:l ≠ it) (hn:items.size ≤ sizeLine)
  (hQ:∀ (h':Heap) (tk:Nat) (acc:Array Value) (c:Nat),(∀ b o,b ≠ it → s.heap.get? b = some o → h'.get? b = some o) → h'.get? s.heap.objs.size = some { cls:=.type "list",dict:=none,data:=.seq acc c,slots:=#[] } → ItemsOf (fun i v=>items[items.size - 1 - i]? = some v) acc items.size →
   Q (.ref s.heap.objs.size) { s with heap:=h',toks:=tk }) :
  wpAny (model prog w) A (call (.type "list") [.ref it]) Q E s:=by
 obtain ⟨oi,hoi,_⟩:=id hit
 obtain ⟨ol,hol,_⟩:=id hl
 refine callType_codes (Q₁:=fun obj s₁=>obj = .ref s.heap.objs.size ∧ s₁ = { s with heap:=s.heap.push { cls:=.type "list",data:=.seq #[] } }) F.called_list (F.typeCall_list_1 _) F.entry_list_init
  (code_list_new _ ⟨rfl,rfl⟩) fun obj s₁ h₁=>?_
 obtain ⟨rfl,rfl⟩:=h₁
 have hS:(s.heap.push { cls:=.type "list",data:=.seq #[] }).get? s.heap.objs.size = some { cls:=.type "list",data:=.seq #[] }:=Heap.get?_push_size _ rfl
 refine ⟨⟨_,hS,rfl⟩,F.args_list_init_2 _ _,Q7g (A:=A.in1) (s:={ s with heap:=s.heap.push { cls:=.type "list",data:=.seq #[] } }) hh (hit.at fun o e=>Heap.get?_push_of_some _ e) (hl.push _) hne hn hS (Qw (Heap.lt_size hoi)) (Qw (Heap.lt_size hol)) fun h' tk acc c hk hS' hacc=>?_⟩
 exact ⟨rfl,hQ h' tk acc c (fun b o hb e=>hk b o (Je (Heap.lt_size e)) hb (Heap.get?_push_of_some _ e)) hS' hacc⟩
end
def Q8m (K:PySem.W.Frag) (te:TE):TE:=fun σ H Q=>te σ H fun v H1=>∃ (a:Addr) (xs:List V),v = .ref a ∧ SqL K H1 a xs ∧ ∀ q,H1 q = none → Q (.ref q) (upd H1 q (.lst xs.reverse))
section
variable {X:Cx}
theorem Q5Z {e:Expr} {te:TE} {p p2 pos pos2:Pos} (hc:X.calm = true) (hg:Gl X "list") (hm:X.mg "list" = none) (hg2:Gl X "reversed") (hm2:X.mg "reversed" = none) (he:PE X e te)
  (hs:starEach [e] X.env = (false,eval e X.env) :: starEach [] X.env:=by rfl)
  (hs2:starEach [.Call (.Name "reversed" p2) [e] [] pos2] X.env = (false,eval (.Call (.Name "reversed" p2) [e] [] pos2) X.env) :: starEach [] X.env:=by rfl) :
  PE X (.Call (.Name "list" p) [.Call (.Name "reversed" p2) [e] [] pos2] [] pos) (Q8m X.K te):=by
 refine ⟨fun pins s σ H Q I h=>?_⟩
 refine Call_ (ld_blt I hg hm boot_list (PyProof.Rows.callWith_type1 (args_cons (Call_ (ld_blt I hg2 hm2 PyProof.Rows.boot_reversed (PyProof.Rows.callWith_type1 (args_cons (thn (he.run pins s σ H _ I h) fun u s1 ⟨v,H1,I1,r1,q1⟩=>args_nil ?_) hs) hs rfl))) hs2) hs2 rfl))
 obtain ⟨a,xs,ev,hq,q⟩:=q1
 subst ev
 obtain rfl:u = Value.ref a:=r1
 obtain ⟨its,rv,p',hz⟩:=I1.list hq
 refine call_reversed_list p'.isList (args_nil ?_)
 have k0:∀ b o,s1.heap.get? b = some o → (s1.heap.push (revObj a ((its.toArray.size:Int) - 1))).get? b = some o:=fun b o e=>Heap.get?_push_of_some _ e
 have I2:Inv X pins σ H1 { s1 with heap:=s1.heap.push (revObj a ((its.toArray.size:Int) - 1)) }:=I1.kept (t':=s1.toks) k0
 obtain ⟨f0,f1,f2,f3,f4,f5⟩:=I1.fpOk (H':=H1) (b:=s1.heap.objs.size) (Jb _) (I1.hok.fresh (Jb _))
 have hl:=p'.isList
 obtain ⟨ol,hol,_⟩:=id hl
 have hne:a ≠ s1.heap.objs.size:=Je (Heap.lt_size hol)
 have hn:its.toArray.size ≤ sizeLine:=by rw [List.size_toArray,← rv.length]; exact hz
 refine Q2E (s:={ s1 with heap:=s1.heap.push (revObj a ((its.toArray.size:Int) - 1)) }) (I1.ok.hd hc) ⟨_,Heap.get?_push_size _ rfl,rfl,rfl⟩ (hl.push _) hne hn fun h' tk acc c hk hS hi=>?_
 have hL:Inv X pins σ (upd H1 (s1.heap.push (revObj a ((its.toArray.size:Int) - 1))).objs.size (.lst xs.reverse)) { s1 with heap:=(s1.heap.push (revObj a ((its.toArray.size:Int) - 1))).push { cls:=.type "list",dict:=none,data:=.seq acc c,slots:=#[] } } :=
  I2.laid (t':=s1.toks) (fun b o e=>Heap.get?_push_of_some _ e) (Jb _) (show ObjOk X.prog X.w _ _ _ (.lst xs.reverse) from ⟨by rw [List.length_reverse]; exact hz,acc.toList,c,vals_rev rv hi,by rw [Array.toArray_toList]; exact Heap.get?_push_size _ rfl⟩)
 have hf:H1 (s1.heap.push (revObj a ((its.toArray.size:Int) - 1))).objs.size = none:=I2.hok.fresh (Jb _)
 have hne2:s1.heap.objs.size ≠ (s1.heap.push (revObj a ((its.toArray.size:Int) - 1))).objs.size:=Je (Heap.lt_size (Heap.get?_push_size s1.heap (o:=revObj a ((its.toArray.size:Int) - 1)) rfl))
 have I4:Inv X pins σ (upd H1 (s1.heap.push (revObj a ((its.toArray.size:Int) - 1))).objs.size (.lst xs.reverse)) { s1 with heap:=h',toks:=tk }:=by
  refine Inv.turned (s:={ s1 with heap:=(s1.heap.push (revObj a ((its.toArray.size:Int) - 1))).push { cls:=.type "list",dict:=none,data:=.seq acc c,slots:=#[] } }) (h':=h') (t':=tk) (it:=s1.heap.objs.size) hL (fun b o hb e=>?_) (by rw [upd_ne hne2]; exact f0) f1 f3 f4 f5
  by_cases cq:b = (s1.heap.push (revObj a ((its.toArray.size:Int) - 1))).objs.size
  ·subst cq
   have e:=(Heap.get?_push_size (s1.heap.push (revObj a ((its.toArray.size:Int) - 1))) (o:={ cls:=.type "list",dict:=none,data:=.seq acc c,slots:=#[] }) rfl).symm.trans e
   cases e
   exact hS
  ·have hlt:=Heap.lt_size e
   have e':(s1.heap.push (revObj a ((its.toArray.size:Int) - 1))).get? b = some o:=by
    rcases Heap.get?_push_cases e with z | z
    ·exact absurd z.1 cq
    ·exact z
   exact hk b o hb e'
 exact ⟨.ref _,_,I4,rfl,q _ hf⟩
end
end Z
namespace Z
open PySem PySem.Spec PyProof.Rows L2
section
variable {K:PySem.W.Frag} {Y:Fx} {F F' H H':Hp} {δ:List Sl} {σ:L2.St} {A:Nat → List Addr} {i:Nat}
theorem SR.chgS (S:SR K Y F H δ σ A) (hi:i < δ.length) {s':Sl} (hH:∀ a,a ∉ A i → H' a = H a) (h:Vy K F H' s' (jn σ[i]?) (A i)) (hob:∀ c fs,s' ≠ Sl.ob c fs:=by intro _ _; simp) (hno:s' ≠ Sl.no:=by simp):SR K Y F H' (δ.set i s') σ A:=by
 refine ⟨by rw [Jl]; exact S.len,fun j t e=>?_,fun j e=>?_,S.dis,S.hid,S.new,fun b x e=>?_,S.fix,S.ioA,fun a x e n=>?_,S.nw,S.f0,S.lio,S.ob_set hi hob (fun j c a ha=>hH a fun z=>c (S.dis j i a ha z)),S.vno_set hi hno⟩
 ·by_cases c:j = i
  ·subst c
   rw [Qp hi] at e
   cases e
   exact h
  ·rw [Qk (Ne.symm c)] at e
   refine (S.slot j t e).mono (Same.refl _) fun a ha=>hH a fun z=>c (S.dis j i a ha z)
 ·by_cases c:j = i
  ·subst c
   rw [Qp hi] at e
   cases e
  ·rw [Qk (Ne.symm c)] at e
   exact S.out j e
 ·rw [hH]
  ·exact S.sub b x e
  ·intro z
   rw [S.hid i b z] at e
   cases e
 ·rw [hH]
  ·exact S.kp a x e n
  ·intro z
   cases hio:Y.lt i with
   | false =>
    rw [S.new i a z hio] at e
    cases e
   | true =>
    rw [(S.fix i hio).2] at z
    exact n i hio z
theorem Stp.chgS {M:List Nat} (hM:i ∈ M) (hH:∀ a,a ∉ A i → H' a = H a):Stp A M F H F H' :=
 ⟨Same.refl _,fun a e n=>absurd e n,fun a x e n=>by rw [hH a (n i hM)]; exact e⟩
def Wi (i:Nat) (δ:List Sl):Option (List Int × Int × Int):=match δ[i]? with
 | some (.dk cs m n)=>some (cs,m,n)
 | _=>none
theorem Q2Q {w:List Int × Int × Int} (h:Wi i δ = some w):δ[i]? = some (.dk w.1 w.2.1 w.2.2):=by
 unfold Wi at h
 split at h
 ·rename_i e; cases h; exact e
 ·cases h
theorem SR.dk (S:SR K Y F H δ σ A) {w:List Int × Int × Int} (h:Wi i δ = some w):∃ p q,σ[i]? = some (some (.ref p)) ∧ A i = [p,q] ∧ H p = some (.lst [.ref q,.int w.2.1,.int w.2.2]) ∧ H q = some (.lst (w.1.map V.int)):=by
 obtain ⟨p,q,e1,e2,h1,h2⟩:=S.slot i _ (Q2Q h)
 exact ⟨p,q,Yr e1,e2,h1,h2⟩
theorem SR.dkI (S:SR K Y F H δ σ A) {w:List Int × Int × Int} (h:Wi i δ = some w):i < δ.length:=(Q5.mp (Q2Q h)).1
theorem Q78 {w:List Int} {H:Hp} {p q:Addr} {m n:Int} (h1:H p = some (.lst [.ref q,.int m,.int n])) (h2:H q = some (.lst (w.map V.int))):p ≠ q:=by
 intro e
 subst e
 rw [h1] at h2
 have h3:[V.ref p,V.int m,V.int n] = w.map V.int:=by
  injection h2 with h2
  injection h2
 cases w with
 | nil=>cases h3
 | cons a b =>
  rw [Qq] at h3
  injection h3 with h4
  cases h4
end
section
variable {X:Cx} {x:Str} {i:Nat} {pos p1 p2 apos:Pos}
def Q6O (i:Nat):List Sl → Option (D × List Sl):=fun δ=>(Wi i δ).map fun w=>(.int w.2.1,δ)
def Q1X (i:Nat):List Sl → Option (D × List Sl):=fun δ=>(Wi i δ).map fun w=>(.int w.2.2,δ)
theorem QaG {j} {p3} (hu:X.A.units + 1 < cLine) (n:Nm X i x) (hs:PlainIx (.Constant (.int 1) j p3):=by intro _ _; rfl):EV X (.Subscript (.Name x p1) (.Constant (.int 1) j p3) pos) (Q6O i) [] []:=by
 refine ⟨_,pe_ix (Q6f hu) n.pe pe_int hs,fun Y F H δ σ A S z δ' e Q k=>?_⟩
 unfold Q6O at e
 cases e0:Wi i δ with
 | none=>rw [e0] at e; cases e
 | some w =>
  rw [e0] at e
  cases e
  obtain ⟨p,q,s1,s2,s3,s4⟩:=S.dk e0
  exact ⟨.ref p,s1,.inl (.inl ⟨p,_,1,.int w.2.1,rfl,rfl,SqL.of s3,rfl,k _ F H Stp.refl S (.inl (.int _))⟩)⟩
theorem Q4N {j} {p3} (hu:X.A.units + 1 < cLine) (n:Nm X i x) (hs:PlainIx (.Constant (.int 2) j p3):=by intro _ _; rfl):EV X (.Subscript (.Name x p1) (.Constant (.int 2) j p3) pos) (Q1X i) [] []:=by
 refine ⟨_,pe_ix (Q6f hu) n.pe pe_int hs,fun Y F H δ σ A S z δ' e Q k=>?_⟩
 unfold Q1X at e
 cases e0:Wi i δ with
 | none=>rw [e0] at e; cases e
 | some w =>
  rw [e0] at e
  cases e
  obtain ⟨p,q,s1,s2,s3,s4⟩:=S.dk e0
  exact ⟨.ref p,s1,.inl (.inl ⟨p,_,2,.int w.2.2,rfl,rfl,SqL.of s3,rfl,k _ F H Stp.refl S (.inl (.int _))⟩)⟩
def Q65 (i:Nat):List Sl → Option (Bool × List Sl):=fun δ=>(Wi i δ).bind fun w=>(eqD (.list (w.1.map Q0)) (.list [])).map fun b=>(b,δ)
theorem Qai {j} {p3 p4} (hu:X.A.units + 65 < cLine) (n:Nm X i x) (hs:PlainIx (.Constant (.int 0) j p3):=by intro _ _; rfl) (hm:behindInMarks .Eq (.List [] p4) = false:=by rfl):TV X (.Compare (.Subscript (.Name x p1) (.Constant (.int 0) j p3) p2) [.Eq] [.List [] p4] pos) (Q65 i) []:=by
 refine ⟨_,pt_cmpR (Vz hu).op (pe_ix (Q6f (by omega)) n.pe pe_int hs) (pe_lst pa_nil) hm,fun Y F H δ σ A S z δ' e Q k=>?_⟩
 unfold Q65 at e
 cases e0:Wi i δ with
 | none=>rw [e0] at e; cases e
 | some w =>
  rw [e0] at e
  simp only [Q1] at e
  cases e1:eqD (.list (w.1.map Q0)) (.list []) with
  | none=>rw [e1] at e; cases e
  | some b =>
   rw [e1] at e
   cases e
   obtain ⟨p,q,s1,s2,s3,s4⟩:=S.dk e0
   refine ⟨.ref p,s1,.inl (.inl ⟨p,_,0,.ref q,rfl,rfl,SqL.of s3,rfl,?_⟩)⟩
   refine ⟨Jh _,fun c hc=>?_⟩
   have ne:q ≠ c:=fun z=>by rw [z] at s4; rw [s4] at hc; cases hc
   refine ⟨upd H c (.lst []),_,_,z,Same.refl _,.lst (by rw [upd_ne ne]; exact s4) (Q2s _),.lst upd_same .nil,e1,?_⟩
   exact ⟨z,rfl,k F _ (Stp.laidO hc) (S.laidO hc)⟩
def Q2k (i:Nat):List Sl → Option (D × List Sl):=fun δ=>(Wi i δ).bind fun w=>(w.1[w.1.length - 1]?).map fun d=>(.int d,δ.set i (.dk w.1.dropLast w.2.1 w.2.2))
theorem Q6z {j} {p3} (hu:X.A.units + 1 < cLine) (n:Nm X i x) (hs:PlainIx (.Constant (.int 0) j p3):=by intro _ _; rfl) (m:Mc0 X (.Subscript (.Name x p1) (.Constant (.int 0) j p3) p2) "pop" apos pos) :
  EV X (.Call (.Attribute (.Subscript (.Name x p1) (.Constant (.int 0) j p3) p2) "pop" apos) [] [] pos) (Q2k i) [] [i]:=by
 refine ⟨_,pe_bm0 PySem.F.plainAttrs_list PySem.F.slot_list_pop PySem.F.type_list_pop mt_pop (pe_ix (Q6f hu) n.pe pe_int hs) m.base m.line,fun Y F H δ σ A S z δ' e Q k=>?_⟩
 unfold Q2k at e
 cases e0:Wi i δ with
 | none=>rw [e0] at e; cases e
 | some w =>
  rw [e0] at e
  simp only [Q1] at e
  cases e1:w.1[w.1.length - 1]? with
  | none=>rw [e1] at e; cases e
  | some d =>
   rw [e1] at e
   cases e
   obtain ⟨p,q,s1,s2,s3,s4⟩:=S.dk e0
   have hpq:=Q78 s3 s4
   refine ⟨.ref p,s1,.inl (.inl ⟨p,_,0,.ref q,rfl,rfl,SqL.of s3,rfl,?_⟩)⟩
   refine ⟨tyL s4,q,_,.int d,rfl,rfl,s4,by rw [Q3,Qd,e1]; rfl,?_⟩
   have out:∀ a,a ∉ A i → upd H q (.lst (w.1.map V.int).dropLast) a = H a:=fun a ha=>upd_ne fun z=>ha (by rw [s2,z]; simp)
   refine k _ F _ (Stp.chgS (i:=i) (by simp) out) (S.chgS (S.dkI e0) out ⟨p,q,by rw [s1]; rfl,s2,?_,?_⟩) (.inl (.int _))
   ·rw [upd_ne hpq]
    exact s3
   ·rw [upd_same,List.map_dropLast]
def Q0Q (i:Nat) (f:List Sl → Option (D × List Sl)):List Sl → Option (D × List Sl):=fun δ=>(Wi i δ).bind fun _=>(f δ).bind fun p=>match p.1 with
 | .int v=>(Wi i p.2).bind fun w=>if w.1.length < sizeLine then some (.none,p.2.set i (.dk (w.1 ++ [v]) w.2.1 w.2.2)) else none
 | _=>none
theorem Q5X {j} {p3} {e:Expr} {f} (hu:X.A.units + 1 < cLine) (n:Nm X i x) (hs:PlainIx (.Constant (.int 0) j p3):=by intro _ _; rfl) (h:EV X e f [] []) (m:Mc X (.Subscript (.Name x p1) (.Constant (.int 0) j p3) p2) "append" apos e [] pos) :
  EV X (.Call (.Attribute (.Subscript (.Name x p1) (.Constant (.int 0) j p3) p2) "append" apos) [e] [] pos) (Q0Q i f) [] [i]:=by
 obtain ⟨t,pe,q⟩:=h
 refine ⟨_,pe_bm PySem.F.plainAttrs_list PySem.F.slot_list_append PySem.F.type_list_append mt_append (pe_ix (Q6f hu) n.pe pe_int hs) (pa_cons pe pa_nil m.star) m.base m.few m.line m.star m.plain,fun Y F H δ σ A S z δ' e Q k=>?_⟩
 unfold Q0Q at e
 cases e0:Wi i δ with
 | none=>rw [e0] at e; cases e
 | some w0 =>
  rw [e0] at e
  simp only [Q1] at e
  cases e1:f δ with
  | none=>rw [e1] at e; cases e
  | some u =>
   obtain ⟨d,δ1⟩:=u
   rw [e1] at e
   simp only [Q1] at e
   split at e
   ·rename_i v
    cases e2:Wi i δ1 with
    | none=>rw [e2] at e; cases e
    | some w =>
     rw [e2] at e
     simp only [Q1] at e
     split at e
     ·rename_i hz
      cases e
      obtain ⟨p,q0,s1,s2,s3,s4⟩:=S.dk e0
      refine ⟨.ref p,s1,.inl (.inl ⟨p,_,0,.ref q0,rfl,rfl,SqL.of s3,rfl,?_⟩)⟩
      refine ⟨tyL s4,?_⟩
      refine q Y F H δ σ A S _ δ1 e1 _ fun y F1 H1 st S1 r=>?_
      obtain ⟨p',q',t1,t2,t3,t4⟩:=S1.dk e2
      have:q' = q0:=by
       rw [s2] at t2
       injection t2 with _ t2
       injection t2 with t2
       exact t2.symm
      subst this
      rw [r.int]
      have hpq:=Q78 t3 t4
      refine ⟨q',_,.int v,rfl,rfl,t4,by rw [Q3]; exact hz,?_⟩
      have out:∀ a,a ∉ A i → upd H1 q' (.lst (w.1.map V.int ++ [.int v])) a = H1 a:=fun a ha=>upd_ne fun z=>ha (by rw [t2,z]; simp)
      refine k _ F1 _ (((st.mono fun _ h=>h).trans S1 (Stp.chgS (M:=[i]) (i:=i) (by simp) out)).mono fun j hj=>by simpa using hj) (S1.chgS (S1.dkI e2) out ⟨p',q',by rw [t1]; rfl,t2,?_,?_⟩) (.inl .non)
      ·rw [upd_ne hpq]
       exact t3
      ·rw [upd_same,List.map_append]
       rfl
     ·cases e
   ·cases e
def Q6g (i:Nat) (f:List Sl → Option (D × List Sl)):List Sl → Option Out:=fun δ=>(f δ).bind fun p=>match p.1 with
 | .int v=>(Wi i p.2).map fun w=>.nx (p.2.set i (.dk w.1 w.2.1 v))
 | _=>none
theorem Q9Q {io:Iom} {fr:Fr} {j} {p3} {v:Expr} {fv} {M:List Nat} {p1 tpos:Pos} (hu:X.A.units + 1 < cLine) (n:Nm X i x) (hv:EV X v fv [] M) (c:Pc X (.Name x p1) (.Constant (.int 2) j p3) v tpos pos.line) :
  SV X io fr (.Assign [.Subscript (.Name x p1) (.Constant (.int 2) j p3) tpos] v pos) (Q6g i fv):=by
 obtain ⟨tv,pv,qv⟩:=hv
 refine ⟨_,ps_asg pv (pg_sub n.pe pe_int (Qbx hu) c.as) c.sw c.st c.ea,fun Y F H δ σ A hY S o e D k=>?_⟩
 unfold Q6g at e
 cases e1:fv δ with
 | none=>rw [e1] at e; cases e
 | some u =>
  obtain ⟨d,δ1⟩:=u
  rw [e1] at e
  simp only [Q1] at e
  split at e
  ·rename_i v'
   cases e2:Wi i δ1 with
   | none=>rw [e2] at e; cases e
   | some w =>
    rw [e2] at e
    cases e
    refine qv Y F H δ σ A S _ δ1 e1 _ fun y F1 H1 st S1 r=>?_
    obtain ⟨p,q,s1,s2,s3,s4⟩:=S1.dk e2
    refine ⟨.ref p,s1,?_⟩
    rw [r.int]
    have hpq:=Q78 s3 s4
    refine .inl ⟨p,_,2,2,rfl,rfl,s3,rfl,?_⟩
    have out:∀ a,a ∉ A i → upd H1 p (.lst ([V.ref q,.int w.2.1,.int w.2.2].set 2 (.int v'))) a = H1 a:=fun a ha=>upd_ne fun z=>ha (by rw [s2,z]; simp)
    refine k σ F1 _ A st.f (S1.chgS (S1.dkI e2) out ⟨p,q,by rw [s1]; rfl,s2,?_,?_⟩)
    ·rw [upd_same]
     rfl
    ·rw [upd_ne (Ne.symm hpq)]
     exact s4
  ·cases e
end
end Z
namespace Z
open PySem PySem.Spec PyProof.Rows L2
def Xz (ns:List Int):List Int:=(ns.take 63).reverse
def Q20 (ns:List Int):Int:=(Xz ns).sum % 2147483629 + 48271 * (Xz ns).length
theorem Qbq {α:Type} (xs:List α):Kd xs none (some 63) = xs.take 63:=by
 unfold Kd
 rw [show HT.sIx xs.length 0 none = 0 from rfl,List.drop_zero,Nat.sub_zero]
 have h:HT.sIx xs.length xs.length (some 63) = min 63 xs.length:=by
  unfold HT.sIx
  simp
  try omega
 rw [h]
 by_cases c:xs.length ≤ 63
 ·rw [Nat.min_eq_right c,List.take_of_length_le (Jb _),List.take_of_length_le c]
 ·rw [Nat.min_eq_left (by omega)]
section
variable {X:Cx} {x:Str} {i:Nat} {pos:Pos}
def Q3L (i:Nat):List Sl → Option (D × List Sl):=fun δ=>match δ[i]? with
 | some (.scr ns)=>some (.list ((Xz ns).map Q0),δ)
 | _=>none
theorem Q6e {p p2 pos2 p3 p4 p5 p6:Pos} {j} (hc:X.calm = true) (hg:Gl X "list") (hm:X.mg "list" = none) (hg2:Gl X "reversed") (hm2:X.mg "reversed" = none) (n:Nm X i x)
  (hs:starEach [.Subscript (.Name x p3) (.Slice none (some (.Constant (.int 63) j p6)) none p4) p5] X.env = (false,eval (.Subscript (.Name x p3) (.Slice none (some (.Constant (.int 63) j p6)) none p4) p5) X.env) :: starEach [] X.env)
  (hs2:starEach [.Call (.Name "reversed" p2) [.Subscript (.Name x p3) (.Slice none (some (.Constant (.int 63) j p6)) none p4) p5] [] pos2] X.env = (false,eval (.Call (.Name "reversed" p2) [.Subscript (.Name x p3) (.Slice none (some (.Constant (.int 63) j p6)) none p4) p5] [] pos2) X.env) :: starEach [] X.env) :
  NV X (.Call (.Name "list" p) [.Call (.Name "reversed" p2) [.Subscript (.Name x p3) (.Slice none (some (.Constant (.int 63) j p6)) none p4) p5] [] pos2] [] pos) (Q3L i) []:=by
 refine ⟨_,Q5Z hc hg hm hg2 hm2 (pe_slice sl_list n.pe po_none (po_some pe_int)) hs hs2,fun Y F H δ σ A S z δ' e Q k=>?_⟩
 unfold Q3L at e
 split at e
 ·rename_i ns e0
  cases e
  obtain ⟨e1,a,e2,e3⟩:=S.slot i _ e0
  refine ⟨.ref a,Yr e2,63,rfl,a,ns.map V.int,rfl,S.sub.seq e3,fun b hb=>?_⟩
  have ec:cutV (ns.map V.int) none (some 63) = (ns.take 63).map V.int:=by
   show Kd (ns.map V.int) none (some 63) = _
   rw [Qbq,List.map_take]
  refine ⟨b,_,rfl,.inl (.inl upd_same),fun c hc2=>?_⟩
  rw [ec] at hc2 ⊢
  rw [← List.map_reverse]
  have hcb:H c = none:=by
   by_cases z:c = b
   ·subst z
    exact hb
   ·rw [upd_ne z] at hc2
    exact hc2
  have S1:=S.laidO (o:=.lst ((ns.take 63).map V.int)) hb
  have S2:=S1.laidO (p:=c) (o:=.lst ((ns.take 63).reverse.map V.int)) hc2
  have st:Stp A [] F H F (upd (upd H b (.lst ((ns.take 63).map V.int))) c (.lst ((ns.take 63).reverse.map V.int))) :=
   Xq S1 (Stp.laidO hb) (Stp.laidO hc2)
  exact k c F _ st S2 hcb (S.sub.free hcb) ⟨_,upd_same,Q2s _⟩
 ·cases e
end
def QaP (K:PySem.W.Frag):Sp:=fun us H Q _=>∃ (u:V) (F:Hp) (ns:List Int),us = [u] ∧ Same F H ∧ (∃ a,u = .ref a ∧ SqL K F a (ns.map V.int)) ∧
 ∀ p q F' H',Stp (fun _=>[]) [] F H F' H' → Same F' H' → H p = none → H q = none → F' p = none → F' q = none → p ≠ q → H' p = some (.lst [.ref q,.int (Q20 ns),.int 0]) → H' q = some (.lst ((Xz ns).map V.int)) → Q (.ref p) H'
section
variable {P:Program} {w:World} {K:PySem.W.Frag} {mg:Str → Option Value} {base:Heap} {CX:CXT} {k:Nat} {f:Addr} {fd:FuncData} {x y:Str}
theorem Q9b {qual:Str} {st:Stmt} {nm:Str} {s1:Stmt} {e1 e2:Expr} {f1:List Sl → Option (D × List Sl)} {p1 p2 p3:Pos} (Fu:Fun K nm qual st f fd) (S:FnScope [x,y] [x] (defScope st)) (hbd:defBody st = [s1,.Return (some (.List [.Name y p1,e1,e2] p2)) p3])
  (hf:∀ ns,f1 [.scr ns,.ow (.list ((Xz ns).map Q0))] = some (.int (Q20 ns),[.scr ns,.ow (.list ((Xz ns).map Q0))]))
  (body:∀ (cd:Value) (A:Around) (out:List Env) (s:Shared) (G:Hp) (E:XK),A.guards = some [] → Room k (A.deeper (envOfC qual (defScope st) s.heap.objs.size f cd)) →
   SV (cxOf CX P w K mg base [x,y] qual (defScope st) f cd A out s G E) (Iom.of fun _=>false) .n s1 (Q2M 1 (Q3L 0)) ∧
   CV (cxOf CX P w K mg base [x,y] qual (defScope st) f cd A out s G E) [.Name y p1,e1,e2] (kIo 1 (Xn f1 (Xn (X5 (.int 0)) Ve))) [] []) :
  FnG P w K mg base CX (k + 1) f fd [x] (QaP K):=by
 refine FnG.mk' Fu S (fun us G Q E h=>by obtain ⟨u,_,_,rfl,_⟩:=h; rfl) fun cd A out s G us Q E hG hR h=>?_
 obtain ⟨⟨t1,q1,b1⟩,⟨t2,q2,b2⟩⟩:=body cd A out s G E hG hR
 obtain ⟨u,F,ns,rfl,sF,⟨a,rfl,hs⟩,kk⟩:=h
 rw [hbd]
 refine ⟨_,pss_cons q1 (pss_cons (ps_ret (pe_lst q2)) pss_nil),?_⟩
 have S0:SR K ⟨Iom.of fun _=>false,fun _=>false,fun _=>false,G,F,[],fun _=>[],fun _ _=>rfl⟩ F G [.scr ns,.no] (L2.start [x,y] [.ref a]) (fun _=>[]):=by
  refine ⟨rfl,fun i s e=>?_,fun _ _=>rfl,fun _ _ _ h=>by simp at h,fun _ _ h=>by simp at h,fun _ _ h=>by simp at h,sF,fun _ h=>by simp at h,fun _ h=>by simp at h,fun _ _ e _=>e,fun _ e n=>absurd e n,Same.refl _,fun _ h=>(by rcases h with h | h <;> cases h),fun i _ _ e=>(by match i,e with | 0,e=>cases e | 1,e=>cases e | _ + 2,e=>simp at e),fun _ h=>by cases h⟩
  match i,e with
  | 0,e=>cases e; exact ⟨rfl,a,rfl,hs⟩
  | 1,e=>cases e; exact rfl
  | _ + 2,e=>simp at e
 refine b1 _ F G _ _ _ rfl S0 (.nx [.scr ns,.ow (.list ((Xz ns).map Q0))]) rfl _ ?_
 intro σ' F1 H1 A1 s01 S1
 refine b2 _ F1 H1 _ _ _ S1 [.io 1,.d (.int (Q20 ns)),.d (.int 0)] [.scr ns,.ow (.list ((Xz ns).map Q0))] ?_ _ ?_
 ·simp only [kIo,Xn,Ve,hf ns]
  rfl
 ·intro vs F2 H2 st2 S2 r
  match vs,r with
  | [v0,v1,v2],⟨r0,r1,r2,_⟩ =>
   have e1:=r1.int
   have e2:=r2.int
   subst e1
   subst e2
   obtain ⟨q,g1,g2,xs,g3,g4⟩:=S2.slot 1 _ rfl
   have e0:v0 = .ref q:=by
    have:=Yr g1
    rw [r0] at this
    cases this
    rfl
   subst e0
   have e3:=g4.ints
   subst e3
   refine ⟨by show 3 ≤ sizeLine; decide,fun p hp=>?_⟩
   have hq2:F2 q = none:=S2.hid 1 q (by rw [g2]; simp)
   have hqG:G q = none:=S2.new 1 q (by rw [g2]; simp) rfl
   have hpq:p ≠ q:=fun z=>by rw [z,g3] at hp; cases hp
   have keep:∀ b o,G b = some o → H2 b = some o:=fun b o e=>S2.kp b o e fun i hi=>by cases hi
   have hpG:G p = none:=by
    cases z:G p with
    | none=>rfl
    | some o=>rw [keep p o z] at hp; cases hp
   refine kk p q F2 _ ⟨S2.f0,S2.nw,fun b o e _=>?_⟩ (fun b o e=>?_) hpG hqG (S2.sub.free hp) hq2 hpq upd_same ?_
   ·rw [upd_ne (ne_of_none (keep b o e) hp)]
    exact keep b o e
   ·rw [upd_ne (ne_of_none (S2.sub b o e) hp)]
    exact S2.sub b o e
   ·rw [upd_ne (Ne.symm hpq)]
    exact g3
  | [],r=>exact r.elim
  | [_],r=>exact r.2.elim
  | [_,_],r=>exact r.2.2.elim
  | _ :: _ :: _ :: _ :: _,r=>exact r.2.2.2.elim
end
section
variable {X:Cx} {nm x y:Str} {p pos py p1:Pos}
structure KnD (X:Cx) (x:Str):Prop where
 ex:∃ (CX:CXT) (k:Nat) (a:Addr) (fd:FuncData) (ps:List Str),FnG X.prog X.w X.K X.mg X.base CX k a fd ps (QaP X.K) ∧ Room k X.A ∧ X.mg x = some (.ref a) ∧ PySem.W.keepIn X.K (.ref a) = true ∧ Binds X.K fd ps [] ∧ Passes CX X E0
 gd:X.A.guards = some []
 gl:Gl X x
 db:(x == ("__debug__":Str)) = false
def Q4l (i j:Nat):List Sl → Option Out:=fun δ=>match δ[j]? with
 | some (.scr ns)=>if i < δ.length then some (.nx (δ.set i (.dk (Xz ns) (Q20 ns) 0))) else none
 | _=>none
theorem Q9k {io:Iom} {fr:Fr} {i j:Nat} (hio:io i = false) (T:Tg X i y) (n:Nm X j x) (kn:KnD X nm)
  (h1:starEach [.Name x p1] X.env = (false,eval (.Name x p1) X.env) :: starEach [] X.env:=by rfl) (h2:(backTo p (starEach [] X.env)).any (·.1) = false:=by rfl)
  {pst:Pos} (hs:swapsWith (.Call (.Name nm pos) [.Name x p1] [] p) (some (.Name y py)) pst.line X.env = pure false:=by rfl) :
  SV X io fr (.Assign [.Name y py] (.Call (.Name nm pos) [.Name x p1] [] p) pst) (Q4l i j):=by
 obtain ⟨CX,k,a,fd,ps,Fn,hR,hm,hk,hb,hx⟩:=kn.ex
 refine ⟨_,ps_set T.nd T.at_ T.loc (Fn.pe kn.gd hR kn.gl hm hk hb hx (pa_cons n.pe pa_nil h1) kn.db h1 h2) hs T.fn,fun Y F H δ σ A hY S o e D kk=>?_⟩
 unfold Q4l at e
 split at e
 ·rename_i ns e0
  split at e
  ·rename_i hi
   cases e
   obtain ⟨e1,b,e2,e3⟩:=S.slot j _ e0
   refine ⟨.ref b,Yr e2,.ref b,F,ns,rfl,S.sub,⟨b,rfl,e3⟩,fun p q F' H' st sFH hp hq hpF hqF hpq hp' hq'=>?_⟩
   have st0:Stp (W4 A []) (Jn ([]:List Ar).length) (ex [] A F H) H F' H':=by
    rw [Q6n]
    exact ⟨st.f,st.nw,fun a o e _=>st.kp a o e (by simp)⟩
   have S0:SR X.K Fx.any F' H' [] (([]:List V).map some) (W4 A []):=by
    refine ⟨rfl,fun i s e=>by simp at e,fun _ _=>rfl,fun _ _ _ h=>by simp [W4] at h,fun _ _ h=>by simp [W4] at h,fun _ _ h=>by simp [W4] at h,sFH,fun _ h=>(by cases h),fun _ h=>(by cases h),fun _ _ e=>(by cases e),fun _ _ _=>rfl,fun _ _ e=>(by cases e),fun _ h=>(by rcases h with h | h <;> cases h),fun i _ _ e=>(by simp at e),fun _ h=>(by cases h)⟩
   obtain ⟨st3,S3,_⟩:=S.behind (as:=[]) (vs:=[]) (R:=[]) (outs:=[]) rfl trivial st0 S0 rfl
   rw [Q0R] at st3 S3
   have S3:SR X.K Y F' H' δ σ A:=S3
   have nA:∀ c,H c = none → ∀ j,c ∉ A j:=fun c hc j m=>S.isSome m hc
   have S4:=S3.put (i:=i) hi (by rw [hY]; exact hio) (s:=.dk (Xz ns) (Q20 ns) 0) (v:=some (.ref p)) (l:=[p,q]) (fun _ _=>by simp) ⟨p,q,rfl,rfl,hp',hq'⟩
    (fun c hc=>by simp at hc; rcases hc with rfl | rfl <;> assumption) (fun c hc=>by simp at hc; rcases hc with rfl | rfl; exact S.fresh0 hp; exact S.fresh0 hq)
    (fun c hc j _=>by simp at hc; rcases hc with rfl | rfl; exact nA _ hp j; exact nA _ hq j)
   exact kk _ F' H' _ st.f S4
  ·cases e
 ·cases e
end
end Z
namespace Z
open PySem PySem.Spec PyProof.Rows L2
theorem hu1 {A:Around} {k:Nat} (hr:Room k A):A.units + 1 < cLine:=by have:=hr.un; omega
theorem Q08 {A:Around} {k:Nat} (hr:Room k A):A.units + 65 < cLine:=by have:=hr.un; omega
theorem Q0t {A:Around} {k:Nat} (hr:Room k A):A.units + 66 < cLine:=by have:=hr.un; omega
def CVn (X:Cx) (es:List Expr) (f:List Sl → Option (List Ar × List Sl)) (R M:List Nat) (n:Nat) (B:List Nat):Prop:=CV X es f R M ∧ ∀ δ as δ',f δ = some (as,δ') → as.length = n ∧ ∀ i ∈ ios as,i ∈ B
section
variable {X:Cx} {a:Expr} {es:List Expr} {fa fr} {Ra Rr Ma Mr B:List Nat} {n:Nat} {pos:Pos}
theorem Yj:CVn X [] Ve [] [] 0 []:=⟨Q72,fun δ as δ' e=>by cases e; exact ⟨rfl,fun _ h=>h⟩⟩
theorem Xi (ha:EV X a fa Ra Ma) (hr:CVn X es fr Rr Mr n B) (dj:∀ i ∈ Ra,i ∉ Mr:=by decide) (hs:starEach (a :: es) X.env = (false,eval a X.env) :: starEach es X.env:=by rfl):CVn X (a :: es) (Xn fa fr) (Ra ++ Rr) (Ma ++ Mr) (n + 1) B:=by
 refine ⟨Q3B ha hr.1 dj hs,fun δ as δ' e=>?_⟩
 unfold Xn at e
 cases e1:fa δ with
 | none=>rw [e1] at e; cases e
 | some p =>
  rw [e1] at e
  simp only [Q1] at e
  cases e2:fr p.2 with
  | none=>rw [e2] at e; cases e
  | some q =>
   rw [e2] at e
   cases e
   obtain ⟨h1,h2⟩:=hr.2 _ q.1 q.2 e2
   exact ⟨by rw [Qu,h1],h2⟩
theorem Q7m {i:Nat} {x:Str} (nm:Nm X i x) (hr:CVn X es fr Rr Mr n B) (hs:starEach (.Name x pos :: es) X.env = (false,eval (.Name x pos) X.env) :: starEach es X.env:=by rfl):CVn X (.Name x pos :: es) (kIo i fr) Rr Mr (n + 1) (i :: B):=by
 refine ⟨Q9x nm hr.1 hs,fun δ as δ' e=>?_⟩
 unfold kIo at e
 split at e
 ·cases e2:fr δ with
  | none=>rw [e2] at e; cases e
  | some q =>
   rw [e2] at e
   cases e
   obtain ⟨h1,h2⟩:=hr.2 _ q.1 q.2 e2
   exact ⟨by rw [Qu,h1],fun j hj=>by
    rcases Ql.mp hj with z | z
    ·subst z; exact Qe
    ·exact Qb _ (h2 j z)⟩
 ·cases e
theorem Q3g:∀ δ ds δ',Y3 δ = some (ds,δ') → ds.length = 0:=fun _ _ _ e=>by cases e; rfl
theorem Q1R {n:Nat} (h:∀ δ ds δ',(fr:List Sl → Option (List D × List Sl)) δ = some (ds,δ') → ds.length = n):∀ δ ds δ',X7 fa fr δ = some (ds,δ') → ds.length = n + 1:=fun δ ds δ' e=>by
 obtain ⟨d,δ1,r,_,e2,rfl⟩:=Q2v e
 rw [Qu,h _ _ _ e2]
end
def tN:Tt → Nat
 | .nm _=>0
 | .nil=>0
 | .cons _ b=>tN b + 1
def tOk:Tt → Bool
 | .nm _=>true
 | .nil=>true
 | .cons _ (.nm _)=>false
 | .cons _ b=>tOk b
theorem Q4T:∀ (T:Tt) (ds:List D) (δ δ':List Sl),(∀ i,T ≠ .nm i) → tOk T = true → Xj T ds δ = some δ' → ds.length = tN T
 | .nm i,_,_,_,h,_,_=>absurd rfl (h i)
 | .nil,[],_,_,_,_,_=>rfl
 | .nil,_ :: _,_,_,_,_,e=>by unfold Xj at e; cases e
 | .cons a b,[],_,_,_,_,e=>by unfold Xj at e; cases e
 | .cons a b,d :: ds,δ,δ',_,ok,e=>by
  unfold Xj at e
  cases e1:Xp a d δ with
  | none=>rw [e1] at e; cases e
  | some δ1 =>
   rw [e1] at e
   have hb:∀ i,b ≠ .nm i:=fun i z=>by subst z; cases ok
   have ok2:tOk b = true:=by
    cases b with
    | nm i=>exact absurd rfl (hb i)
    | nil=>rfl
    | cons _ _=>exact ok
   exact congrArg (· + 1) (Q4T b ds δ1 δ' hb ok2 e)
theorem gv_t {X:Cx} {es:List Expr} {k:Nat} {pos:Pos} {T:Tt} (hc:X.calm = true) (h:GsV X es T) (hT:∀ i,T ≠ .nm i:=by intro _ z; cases z) (ok:tOk T = true:=by rfl) (hn:(assignEach es X.env).length = tN T:=by rfl) (hst:(assignEach es X.env).findIdx? (·.1) = none:=by rfl):GV X (.Tuple es k pos) T :=
 QaI hc h hT hn (fun ds δ δ' e=>Q4T T ds δ δ' hT ok e) hst
structure GK (P:Program) (w:World) (K:PySem.W.Frag) (mg:Str → Option Value) (base:Heap) (x:Str) (k n:Nat) (fr:Fr) (φ:List Sl → Option (D × List Sl)):Prop where
 ex:∃ (a:Addr) (fd:FuncData) (ps:List Str),FnG P w K mg base CX0 k a fd ps (spF K ps.length fr φ) ∧ ps.length = n ∧ mg x = some (.ref a) ∧ PySem.W.keepIn K (.ref a) = true ∧ Binds K fd ps []
structure GKD (P:Program) (w:World) (K:PySem.W.Frag) (mg:Str → Option Value) (base:Heap) (x:Str) (k:Nat):Prop where
 ex:∃ (a:Addr) (fd:FuncData) (ps:List Str),FnG P w K mg base CX0 k a fd ps (QaP K) ∧ mg x = some (.ref a) ∧ PySem.W.keepIn K (.ref a) = true ∧ Binds K fd ps []
section
variable {X:Cx} {x:Str} {k j n:Nat} {fr:Fr} {φ:List Sl → Option (D × List Sl)}
theorem GK.kn (g:GK X.prog X.w X.K X.mg X.base x k n fr φ) (hR:Room j X.A) (hG:X.A.guards = some []) (gl:Gl X x:=by rfl) (hk:k ≤ j:=by decide) (db:(x == ("__debug__":Str)) = false:=by decide):Kn X x n fr φ:=by
 obtain ⟨a,fd,ps,h1,h2,h3,h4,h5⟩:=g.ex
 exact ⟨⟨CX0,k,a,fd,ps,h1,h2,hR.mono hk,h3,h4,h5,pass0⟩,hG,gl,db⟩
theorem GKD.kn (g:GKD X.prog X.w X.K X.mg X.base x k) (hR:Room j X.A) (hG:X.A.guards = some []) (gl:Gl X x:=by rfl) (hk:k ≤ j:=by decide) (db:(x == ("__debug__":Str)) = false:=by decide):KnD X x:=by
 obtain ⟨a,fd,ps,h1,h3,h4,h5⟩:=g.ex
 exact ⟨⟨CX0,k,a,fd,ps,h1,hR.mono hk,h3,h4,h5,pass0⟩,hG,gl,db⟩
end
def GC (K:PySem.W.Frag) (mg:Str → Option Value) (x:Str) (d:D):Prop:=∃ u v,mg x = some u ∧ kRp K 40 u = some (v,d)
def GCt (K:PySem.W.Frag) (mg:Str → Option Value) (x:Str) (ds:List D):Prop:=∃ u v,mg x = some u ∧ kRp K 40 u = some (v,.tuple ds) ∧ kDn K u = true
theorem GCt.c {K:PySem.W.Frag} {mg:Str → Option Value} {x:Str} {ds:List D} (h:GCt K mg x ds):GC K mg x (.tuple ds):=by
 obtain ⟨u,v,h1,h2,_⟩:=h
 exact ⟨u,v,h1,h2⟩
theorem Q2d {X:Cx} {x:Str} {d:D} {pos:Pos} (c:GC X.K X.mg x d) (hg:Gl X x:=by rfl) (db:(x == ("__debug__":Str)) = false:=by decide):EV X (.Name x pos) (X5 d) [] []:=Qbu hg ⟨c,db⟩
theorem Q7k {H:Hp} (hO:L2.Only H) {b:Addr} {o:HO} (e:H b = some o):∃ ob xs,o = .frz ob (.lst xs):=by
 rcases hO b with z | ⟨ob,xs,z⟩
 ·rw [e] at z; cases z
 ·rw [e] at z; cases z; exact ⟨ob,xs,rfl⟩
theorem Q4Z {K:PySem.W.Frag} {φ:List Sl → Option (D × List Sl)} {H:Hp} {a:Addr} {ns:List Int} (hS:SqL K H a (ns.map V.int)) {outs:List Sl} (hφ:φ [.scr ns] = some (.bool true,outs)):spF K 1 .n φ [.ref a] H (fun v _=>v = .bl true) (fun _ _ _=>False):=by
 refine ⟨H,[.scr ns],fun _=>[],rfl,?_,.bool true,outs,hφ,fun v F' H' _ _ r=>?_⟩
 ·refine ⟨rfl,fun i s e=>?_,fun _ _=>rfl,fun _ _ _ h=>by simp at h,fun _ _ h=>by simp at h,fun _ _ h=>by simp at h,Same.refl _,fun _ h=>(by cases h),fun _ h=>(by cases h),fun _ _ e=>(by cases e),fun _ _ _=>rfl,fun _ _ e=>(by cases e),fun _ h=>(by rcases h with h | h <;> cases h),fun i _ _ e=>(by match i,e with | 0,e=>cases e | _ + 1,e=>simp at e),fun _ h=>(by cases h)⟩
  match i,e with
  | 0,e=>cases e; exact ⟨rfl,a,rfl,hS⟩
  | _ + 1,e=>simp at e
 ·exact Q0I r
theorem QbP {P:Program} {w:World} {K:PySem.W.Frag} {mg mb:Str → Option Value} {k:Nat} {fa a:Addr} {fd:FuncData} {x:Str} {φ:List Sl → Option (D × List Sl)} {s1:Shared} {vs:List Value} {ns:List Int}
  (KX:K.In s1.heap) (hns:s1.heap.Ns mainGlobals mg) (hb:s1.heap.Ns builtinsNs mb) (hbb:∀ x:Str,x ≠ "__name__" → mb x = bootBuiltins x) (hlim:s1.heap.NoLimit) (hg:s1.gens = #[])
  (ha:s1.heap.get? a = some { cls:=.type "list",data:=.seq vs.toArray }) (hi:IntsAre vs ns) (hl:ns.length ≤ sizeLine) (hr:Room k callerA)
  (Fn:∀ base:Heap,K.In base → base.Ns mainGlobals mg → FnG P w K mg base CX0 k fa fd [x] (spF K 1 .n φ)) (hbind:∀ (s:Shared) (u:Value),BindsTo s fd ⟨[u],[]⟩ [(x,u)])
  (hφ:∃ outs,φ [.scr ns] = some (.bool true,outs)) :
  codeAny (model P w) callerA (.call (.ref fa) ⟨[.ref a],[]⟩) (fun r s'=>r = .ok (.ret (.bool true)) ∧ OldK s1.heap s'.heap ∧ s'.os = s1.os ∧ AllBare s'.gens) s1:=by
 obtain ⟨outs,hφ⟩:=hφ
 have rv:=vals_ints hi
 have lv:=hi.length
 -- the heap H: nothing,or the script alone
 have go:∀ H:Hp,L2.Only H → SqL K H a (ns.map V.int) → HOk P w H s1.heap → (∀ b,H b ≠ none → b = a) → (H a ≠ none → K.lookup a = none) →
   codeAny (model P w) callerA (.call (.ref fa) ⟨[.ref a],[]⟩) (fun r s'=>r = .ok (.ret (.bool true)) ∧ OldK s1.heap s'.heap ∧ s'.os = s1.os ∧ AllBare s'.gens) s1:=by
  intro H hO hS hok hA hK
  have free:∀ {b:Addr} {o:Obj},s1.heap.get? b = some o → o.data ≠ .seq vs.toArray → H b = none:=fun {b o} e d=>by
   cases q:H b with
   | none=>rfl
   | some u =>
    obtain rfl:=hA b (by rw [q]; simp)
    rw [ha] at e
    cases e
    exact absurd rfl d
  have there:∀ {b:Addr} {o:Obj},s1.heap.get? b = some o → H b = none → (hidT s1.heap H).get? b = some o:=fun e n=>hidT_get e n
  have nsK:∀ {b:Addr} {m:Str → Option Value},s1.heap.Ns b m → (hidT s1.heap H).Ns b m:=fun {b m} ⟨o,es,ep,e,d,r⟩=>⟨o,es,ep,there e (free e (by rw [d]; intro z; cases z)),d,r⟩
  have hKb:K.In (hidT s1.heap H):=fun b o e=>there (KX b o e) (by
   cases q:H b with
   | none=>rfl
   | some u =>
    obtain rfl:=hA b (by rw [q]; simp)
    have:=hK (by rw [q]; simp)
    rw [e] at this
    cases this)
  have hM:Mod K mg (hidT s1.heap H):=by
   obtain ⟨mc,l1,l2⟩:=hlim
   exact ⟨hKb,nsK hns,⟨mb,nsK hb,hbb⟩,mc,nsK l1,l2⟩
  have e0:Env0 P w K mg (hidT s1.heap H) callerA [] s1 H:=⟨rfl,hM,fun b o e=>of_hidT e,Jw (hidT_size _ _),trivial,fun b hb=>absurd (show b ∈ ([]:List Addr) from hb) (by simp),hok,.of_eq hg⟩
  have run:=(Fn _ hKb (nsK hns)).run callerA [] s1 H ⟨[.ref a],[]⟩ [.ref a] [.ref a] _ _ rfl hr e0 (hbind s1 (.ref a)) (.cons rfl .nil) (Q4Z hS hφ)
  refine codeAny_mono run fun r s' h=>?_
  match r,h with
  | .error _,h=>exact h.elim
  | .ok .next,h=>exact h.elim
  | .ok .brk,h=>exact h.elim
  | .ok .cont,h=>exact h.elim
  | .ok (.ret u),h =>
   obtain ⟨v,H',os,bare,un,hok',r',q⟩:=h
   obtain rfl:v = .bl true:=q
   obtain rfl:u = Value.bool true:=r'
   refine ⟨rfl,OldK.of_keep fun b o e=>?_,os,bare⟩
   cases q:H b with
   | none=>exact un.keep b o e q (fun z=>absurd (show b ∈ ([]:List Addr) from z) (by simp)) (by simp)
   | some u =>
    obtain ⟨ob,xs,rfl⟩:=Q7k hO q
    obtain ⟨e1,_⟩:=hok b _ q
    obtain ⟨e2,_⟩:=hok' b _ (un.frzs b ob _ q)
    rw [e] at e1
    cases e1
    exact e2
 cases hk:K.lookup a with
 | some o =>
  have e:=KX a o hk
  rw [ha] at e
  cases e
  exact go (fun _=>none) (fun _=>.inl rfl) (.inr ⟨_,vs.toArray,_,hk,rfl,rfl,rfl,by rw [List.size_toArray,lv]; exact hl,by simpa using rv⟩) (fun b u z=>by cases (show (none:Option HO) = some u from z)) (fun b z=>absurd rfl z) (fun z=>absurd rfl z)
 | none =>
  have yes:∀ b,b = a → (if b = a then some (HO.frz { cls:=.type "list",data:=.seq vs.toArray } (.lst (ns.map V.int))) else none) = some (HO.frz { cls:=.type "list",data:=.seq vs.toArray } (.lst (ns.map V.int))):=fun b h=>if_pos h
  refine go (fun b=>if b = a then some (.frz { cls:=.type "list",data:=.seq vs.toArray } (.lst (ns.map V.int))) else none) (fun b=>?_) (.inl (.inr ⟨_,yes a rfl⟩)) (fun b u z=>?_) (fun b z=>?_) fun _=>hk
  ·by_cases c:b = a
   ·exact .inr ⟨_,_,yes b c⟩
   ·exact .inl (if_neg c)
  ·by_cases c:b = a
   ·subst c
    cases (yes b rfl).symm.trans z
    exact ⟨ha,by rw [Q3]; exact hl,vs,_,rv,ha⟩
   ·cases (if_neg c:(if b = a then some (HO.frz { cls:=.type "list",data:=.seq vs.toArray } (.lst (ns.map V.int))) else none) = none).symm.trans z
  ·by_cases c:b = a
   ·exact c
   ·exact absurd (if_neg c) z
end Z
namespace Z
open PySem PySem.Spec PyProof.Rows L2
section
variable {X:Cx} {x:Str} {i:Nat} {pos:Pos}
theorem nmk (i:Nat) (h:X.N[i]? = some x:=by rfl) (v:Vis X.env.scope x:=by first | exact .inl rfl | exact .inr (.inl rfl) | exact .inr (.inr rfl)) (db:(x == ("__debug__":Str)) = false:=by decide) (cd:(x == ("__classdict__":Str)) = false:=by decide):Nm X i x:=⟨h,v,db,cd⟩
theorem tgk (i:Nat) (nd:X.N.Nodup) (h:X.N[i]? = some x:=by rfl) (l:Loc X.env.scope x:=by first | exact .inl rfl | exact .inr rfl) (f:X.fn x = true ∨ X.env.scope.names.lookup x = some .local:=by first | exact .inr rfl | exact .inl rfl):Tg X i x:=⟨nd,h,l,f⟩
theorem bnk {v:Value} (m:X.mg x = none) (gl:Gl X x:=by rfl) (bt:bootBuiltins x = some v:=by decide +kernel) (nn:x ≠ "__name__":=by decide) (db:(x == ("__debug__":Str)) = false:=by decide):Bn X x v:=⟨gl,m,bt,nn,db⟩
theorem X6 (i:Nat) (h:X.N[i]? = some x:=by rfl) (v:Vis X.env.scope x:=by first | exact .inl rfl | exact .inr (.inl rfl) | exact .inr (.inr rfl)) (db:(x == ("__debug__":Str)) = false:=by decide) (cd:(x == ("__classdict__":Str)) = false:=by decide):EV X (.Name x pos) (X2 i) [] []:=Q7n h v db cd
def fRd (i:Nat):List Sl → Option (D × List Sl):=fun δ=>match δ[i]? with
 | some (.fz d)=>some (d,δ)
 | some (.ow (.list ds))=>some (.list ds,δ)
 | some (.lk ds)=>some (.dict ds,δ)
 | _=>none
theorem Q7K (i:Nat) (h:X.N[i]? = some x:=by rfl) (v:Vis X.env.scope x:=by first | exact .inl rfl | exact .inr (.inl rfl) | exact .inr (.inr rfl)) (db:(x == ("__debug__":Str)) = false:=by decide) (cd:(x == ("__classdict__":Str)) = false:=by decide):EV X (.Name x pos) (fRd i) [i] []:=by
 obtain ⟨t,p,q⟩:=Q7n (pos:=pos) h v db cd
 obtain ⟨t2,p2,q2⟩:=Qb5 (pos:=pos) h v db cd
 refine ⟨_,pe_var h v db cd,fun Y F H δ σ A S d δ' e Q k=>?_⟩
 unfold fRd at e
 split at e
 ·rename_i d0 hd
  cases e
  obtain ⟨_,u,e2,r⟩:=S.slot i _ hd
  exact ⟨u,Yr e2,k u F H Stp.refl S (.inl r)⟩
 ·rename_i d0 hd
  cases e
  obtain ⟨u,e2,e3,o⟩:=S.slot i _ hd
  exact ⟨_,Yr e2,k _ F H Stp.refl S (.inr ⟨i,by simp,u,rfl,e3,o⟩)⟩
 ·rename_i d0 hd
  cases e
  obtain ⟨u,e2,e3,o⟩:=S.slot i _ hd
  exact ⟨_,Yr e2,k _ F H Stp.refl S (.inr ⟨i,by simp,u,rfl,e3,o⟩)⟩
 ·cases e
end
section
variable {X:Cx} {x:Str} {p pos:Pos} {e:Expr} {es:List Expr} {R M:List Nat} {f:List Sl → Option (List Ar × List Sl)} {φ:List Sl → Option (D × List Sl)} {n:Nat} {B:List Nat}
theorem Vx (kn:Kn X x n .n φ) (h:CVn X (e :: es) f R M n B) (h1:starEach (e :: es) X.env = (false,eval e X.env) :: starEach es X.env:=by rfl) (h2:(backTo pos (starEach es X.env)).any (·.1) = false:=by rfl):EV X (.Call (.Name x p) (e :: es) [] pos) (Y6 R true φ f) [] (M ++ B):=Q8b kn h.2 h.1 h1 h2
theorem QbS (kn:Kn X x n .l φ) (h:CVn X (e :: es) f [] M n B) (h1:starEach (e :: es) X.env = (false,eval e X.env) :: starEach es X.env:=by rfl) (h2:(backTo pos (starEach es X.env)).any (·.1) = false:=by rfl):NV X (.Call (.Name x p) (e :: es) [] pos) (Y6 [] true φ f) (M ++ B):=Q9d kn h.2 h.1 h1 h2
theorem Q0s {A:Around} {k:Nat} (hr:Room k A):A.units + 67 < cLine:=by have:=hr.un; omega
end
def Qbg (N:List Str) (sc scope:Scope) (own:List (Str × Nat)):Bool :=
 decide (scope.kind = .function) && scope.names.all (fun y=>decide (scope.names.lookup y.1 = some y.2)) && own.all (fun p=>decide (N[p.2]? = some p.1)) && scope.names.all (fun y=>decide (y.2 ≠ .free) || decide (sc.names.lookup y.1 = some .cell) || decide (sc.names.lookup y.1 = some .free))
  && scope.names.all (fun y=>decide (y.2 ≠ .local ∧ y.2 ≠ .cell) || (own.map (·.1)).contains y.1 || !(N.contains y.1))
theorem Z1 {N:List Str} {sc scope:Scope} {own:List (Str × Nat)} (h:Qbg N sc scope own = true):BlkOk N sc scope own:=by
 unfold Qbg at h
 simp only [Q4,decide_eq_true_eq,Qh,J3,Ja,Bool.not_eq_true'] at h
 obtain ⟨⟨⟨⟨h1,h2⟩,h3⟩,h4⟩,h5⟩:=h
 refine ⟨h1,h2,h3,fun y hy e=>?_,fun y hy e=>?_⟩
 ·rcases h4 y hy with (z | z) | z
  ·exact absurd e z
  ·exact .inl z
  ·exact .inr z
 ·rcases h5 y hy with (z | z) | z
  ·rcases e with e | e
   ·exact absurd e z.1
   ·exact absurd e z.2
  ·exact .inl z
  ·refine .inr fun m=>?_
   rw [Ja.mpr m] at z
   cases z
theorem Q8l (ns:List Int):f2 V7 (f2 W5 (fA (g1 Q69) (X7 (fRd 1) Y3)) (X5 (.int 2147483629))) (f2 Yx (X5 (.int 48271)) (fA (g1 Q05) (X7 (fRd 1) Y3))) [.scr ns,.ow (.list ((Xz ns).map Q0))] = some (.int (Q20 ns),[.scr ns,.ow (.list ((Xz ns).map Q0))]):=by
 have e1:X7 (fRd 1) Y3 [.scr ns,.ow (.list ((Xz ns).map Q0))] = some ([.list ((Xz ns).map Q0)],[.scr ns,.ow (.list ((Xz ns).map Q0))]):=rfl
 have e2:g1 Q69 [.list ((Xz ns).map Q0)] = some (.int (Xz ns).sum):=by
  simp only [g1,Q69,Q2h,Qx]
 have e3:g1 Q05 [.list ((Xz ns).map Q0)] = some (.int ((Xz ns).length:Nat)):=by
  simp only [g1,Q05,Q3]
 have e4:W5 (.int (Xz ns).sum) (.int 2147483629) = some (.int ((Xz ns).sum % 2147483629)):=by
  simp [W5]
 simp only [f2,fA,X5,e1,e2,e3,e4,Q1,Qx]
 rfl
theorem gcs {K:PySem.W.Frag} {u:Value} {d:D} (h:(kRp K 40 u).map (·.2) = some d):kRp K 40 u = some ((((kRp K 40 u).map (·.1)).getD .non),d):=by
 cases e:kRp K 40 u with
 | none=>rw [e] at h; cases h
 | some p =>
  rw [e] at h
  cases h
  rfl
end Z
namespace Z
open PySem PySem.Spec PyProof.Rows L2
theorem Q2z:∀ cs:List Int,Ju (cs.map Q0) = true
 | []=>rfl
 | c :: r=>by
  show (PyData.plain (.int c) && Ju (r.map Q0)) = true
  rw [Q2z r]
  rfl
theorem Q4g:∀ cs:List Int,Jk (cs.map Q0) ≤ 1
 | []=>Jh _
 | c :: r=>by
  have:=Q4g r
  simp only [Qq,Jk,PyData.depth]
  omega
theorem Q43 (cs:List Int):shp (.list (cs.map Q0)) = true:=by
 have h1:=Q2z cs
 have h2:=Q4g cs
 unfold shp
 rw [Q4,decide_eq_true_eq]
 refine ⟨h1,?_⟩
 simp only [PyData.depth]
 omega
theorem Q0H (cs:List Int):eqD (.list (cs.map Q0)) (.list []) = some cs.isEmpty:=by
 unfold eqD
 rw [Q43,show shp (.list []) = true from rfl]
 cases cs <;> rfl
def Q21:List Sl → Option Out:=Xb (sIf (fun δ=>toB (f2 (bD geD) (X2 2) (f2 Q62 (X5 (.int 10)) (X5 (.int 18))) δ)) (Xb (Q68 (Q0Q 0 (f2 Z7 (X2 2) (X2 1)))) (Xb (Ym (f2 W5 (X2 2) (X2 1))) (Xe))) (Xe)) (Xb (Yv 3 (f2 W5 (f2 Yx (f2 V7 (f2 V7 (f2 W5 (X2 2) (X5 (.int 2147483629))) (f2 Yx (X5 (.int 104729)) (Q1X 0))) (X5 (.int 1))) (X5 (.int 48271))) (X5 (.int 2147483647)))) (Xb (Yv 3 (f2 W5 (f2 V7 (f2 V7 (f2 Yx (X2 3) (X2 3)) (f2 Yx (X5 (.int 69621)) (Q1X 0))) (X5 (.int 7))) (X5 (.int 2147483587)))) (Xb (Ym (f2 W5 (f2 Z7 (f2 W5 (f2 Yx (X2 3) (f2 V7 (f2 Z7 (X2 3) (X5 (.int 3))) (X5 (.int 39373)))) (X5 (.int 2305843009213693951))) (X5 (.int 128))) (X2 1))) (Xe))))
def Q5j:List Sl → Option Out:=Xb (Q6g 0 (f2 V7 (Q1X 0) (X5 (.int 1)))) (Xb (Yv 2 (Q5H (Q65 0) (Q6O 0) (Q2k 0))) Q21)
theorem K2 (a b:Int):V7 (.int a) (.int b) = some (.int (a + b)):=rfl
theorem Q0u (a b:Int) (h:Q18 a = true):Yx (.int a) (.int b) = some (.int (a * b)):=by simp [Yx,Q3Y,h]
theorem QaH (a b:Int) (h:Q18 b = true):Yx (.int a) (.int b) = some (.int (a * b)):=by simp [Yx,Q3Y,h]
theorem Q2U (a k:Int) (h:0 < k) (h2:k ≤ 2 ^ 62):Q18 (a % k) = true:=by
 have h3:=Int.emod_nonneg a (Int.ne_of_gt h)
 have h4:=Int.emod_lt_of_pos a h
 unfold Q18
 simp
 omega
theorem Q7h (a b:Int):QaQ (.int a) (.int b) = some (.int (a - b)):=rfl
theorem K8 (a b:Int) (h:0 < b):W5 (.int a) (.int b) = some (.int (a % b)):=if_pos h
theorem Q1g (a b:Int) (h:0 < b) (h2:b < 2 ^ 30):Z7 (.int a) (.int b) = some (.int (a / b)):=by
 show (if (decide (0 < b) && decide (b < 1073741824)) = true then some (Q0 (a / b)) else none) = _
 rw [if_pos (by simp [h]; omega)]
theorem Q5I (cs:List Int) (m n c M:Int) (hM:0 < M) (hM2:M < 2 ^ 30) (hc:cs.length < 1000) :
  ∃ (r:Int) (cs':List Int) (z:Sl),0 ≤ r ∧ r < M ∧ cs'.length ≤ cs.length + 1 ∧ Q21 [.dk cs m n,.fz (.int M),.fz (.int c),.no] = some (.rt (.int r) [.dk cs' m n,.fz (.int M),.fz (.int c),z]):=by
 have hs:cs.length < sizeLine:=Qm hc (by decide)
 by_cases h:(10:Int) ^ 18 ≤ c
 ·refine ⟨c % M,cs ++ [c / M],.no,Int.emod_nonneg _ (by omega),Int.emod_lt_of_pos _ hM,by simp,?_⟩
  have e1:geD (.int c) (.int (10 ^ 18)) = some true:=by
   simp [geD]
   omega
  have e2:Q62 (.int 10) (.int 18) = some (.int (10 ^ 18)):=rfl
  simp only [Q21,Xb,sIf,Q68,Ym,toB,f2,X2,X5,Q0Q,Wi,bD,e1,e2,Q1g _ _ hM hM2,K8 _ _ hM,hs,List.getElem?_cons_zero,List.getElem?_cons_succ,Q1,Qx,if_true,List.set_cons_zero]
 ·refine ⟨(((((c % 2147483629 + 104729 * n + 1) * 48271) % 2147483647) * (((c % 2147483629 + 104729 * n + 1) * 48271) % 2147483647) + 69621 * n + 7) % 2147483587 * ((((((c % 2147483629 + 104729 * n + 1) * 48271) % 2147483647) * (((c % 2147483629 + 104729 * n + 1) * 48271) % 2147483647) + 69621 * n + 7) % 2147483587) / 3 + 39373) % 2305843009213693951 / 128) % M,cs,.fz (.int (((((c % 2147483629 + 104729 * n + 1) * 48271) % 2147483647) * (((c % 2147483629 + 104729 * n + 1) * 48271) % 2147483647) + 69621 * n + 7) % 2147483587)),Int.emod_nonneg _ (Int.ne_of_gt hM),Int.emod_lt_of_pos _ hM,by omega,?_⟩
  have e1:geD (.int c) (.int (10 ^ 18)) = some false:=by simp [geD]; omega
  have e2:Q62 (.int 10) (.int 18) = some (.int (10 ^ 18)):=rfl
  have m1:∀ a:Int,W5 (.int a) (.int 2147483629) = some (.int (a % 2147483629)):=fun a=>K8 a _ (by decide)
  have m2:∀ a:Int,W5 (.int a) (.int 2147483647) = some (.int (a % 2147483647)):=fun a=>K8 a _ (by decide)
  have m3:∀ a:Int,W5 (.int a) (.int 2147483587) = some (.int (a % 2147483587)):=fun a=>K8 a _ (by decide)
  have m4:∀ a:Int,W5 (.int a) (.int 2305843009213693951) = some (.int (a % 2305843009213693951)):=fun a=>K8 a _ (by decide)
  have d1:∀ a:Int,Z7 (.int a) (.int 3) = some (.int (a / 3)):=fun a=>Q1g a _ (by decide) (by decide)
  have d2:∀ a:Int,Z7 (.int a) (.int 128) = some (.int (a / 128)):=fun a=>Q1g a _ (by decide) (by decide)
  have l1:∀ a:Int,Yx (.int 104729) (.int a) = some (.int (104729 * a)):=fun a=>Q0u _ _ rfl
  have l2:∀ a:Int,Yx (.int 69621) (.int a) = some (.int (69621 * a)):=fun a=>Q0u _ _ rfl
  have l3:∀ a:Int,Yx (.int a) (.int 48271) = some (.int (a * 48271)):=fun a=>QaH _ _ rfl
  have l4:∀ a b:Int,Yx (.int (a % 2147483647)) (.int b) = some (.int ((a % 2147483647) * b)):=fun a b=>Q0u _ _ (Q2U _ _ (by decide) (by decide))
  have l5:∀ a b:Int,Yx (.int (a % 2147483587)) (.int b) = some (.int ((a % 2147483587) * b)):=fun a b=>Q0u _ _ (Q2U _ _ (by decide) (by decide))
  have mM:∀ a:Int,W5 (.int a) (.int M) = some (.int (a % M)):=fun a=>K8 a _ hM
  simp only [Q21,Xb,sIf,Yv,Q68,Ym,Xe,toB,f2,X2,X5,Q1X,Wi,bD,e1,e2,m1,m2,m3,m4,d1,d2,mM,K2,l1,l2,l3,l4,l5,hs,List.getElem?_cons_zero,List.getElem?_cons_succ,Q1,Qx,Qu,List.length_nil,List.set_cons_zero,List.set_cons_succ,Nat.reduceAdd,Nat.reduceLT,if_true]
theorem QaJ {sg:List Bool} {m:Nat} {fr:Fr} {g:List Sl → Option Out} {as δ o:List Sl} {d:D} (h1:Q0B sg as = true) (h2:g (as ++ Qy (m - sg.length) .no) = some (.rt d δ)) (h3:Yb as δ = some o):fnF sg m fr g as = some (d,o):=by
 unfold fnF
 rw [h1,h2]
 show (Yb as δ).map (fun o=>(d,o)) = _
 rw [h3]
 rfl
def Q2n:List Sl → Option (D × List Sl):=fnF [true,false] 4 .n Q5j
theorem Q97 (cs:List Int) (m n M:Int) (hM:0 < M) (hM2:M < 2 ^ 30) (hc:cs.length ≤ 63):∃ (r:Int) (cs':List Int) (n':Int),0 ≤ r ∧ r < M ∧ cs'.length ≤ 63 ∧ Q2n [.dk cs m n,.fz (.int M)] = some (.int r,[.dk cs' m n',.fz (.int M)]):=by
 have fin:∀ (cs0:List Int) (c:Int),cs0.length ≤ 62 → Q5j [.dk cs m n,.fz (.int M),.no,.no] = Q21 [.dk cs0 m (n + 1),.fz (.int M),.fz (.int c),.no] →
   ∃ (r:Int) (cs':List Int) (n':Int),0 ≤ r ∧ r < M ∧ cs'.length ≤ 63 ∧ Q2n [.dk cs m n,.fz (.int M)] = some (.int r,[.dk cs' m n',.fz (.int M)]):=fun cs0 c hl e=>by
  obtain ⟨r,cs',z,h1,h2,h3,h4⟩:=Q5I cs0 m (n + 1) c M hM hM2 (by omega)
  refine ⟨r,cs',n + 1,h1,h2,by omega,?_⟩
  exact QaJ rfl (e.trans h4) rfl
 have en:∀ a b:Int,V7 (.int a) (.int b) = some (.int (a + b)):=fun _ _=>rfl
 cases cs with
 | nil =>
  refine fin [] m (by simp) ?_
  simp only [Q5j,Xb,Q6g,Yv,Q5H,Q65,Q6O,Q1X,f2,X5,Wi,en,Q0H,List.isEmpty_nil,List.getElem?_cons_zero,Q1,Qx,Qu,List.length_nil,List.set_cons_zero,List.set_cons_succ,Nat.reduceAdd,Nat.reduceLT,if_true]
 | cons x r =>
  have he:(x :: r).isEmpty = false:=rfl
  generalize (x :: r) = cs at he hc fin ⊢
  have h0:0 < cs.length:=by
   cases cs with
   | nil=>cases he
   | cons _ _=>simp
  obtain ⟨c,hl⟩:∃ c,cs[cs.length - 1]? = some c:=⟨_,Q6 (by omega)⟩
  refine fin cs.dropLast c (by rw [List.length_dropLast]; omega) ?_
  simp only [Q5j,Xb,Q6g,Yv,Q5H,Q65,Q2k,Q1X,f2,X5,Wi,en,Q0H,hl,he,List.getElem?_cons_zero,Q1,Qx,List.set_cons_zero,List.set_cons_succ,Qu,List.length_nil,Nat.reduceAdd,Nat.reduceLT,if_true]
theorem Q7z:1000000 ≤ sizeLine:=by decide
theorem Q50 {i:Int} (h0:-1000000 ≤ i) (h1:i ≤ 1000000):V1 i = true:=by
 unfold V1
 simp
 omega
end Z
namespace Z
open PySem PySem.Spec PyProof.Rows L2

end Z
namespace Z
open PySem PySem.Spec PyProof.Rows L2
def PrR (K:PySem.W.Frag) (F:Hp):List (V × V) → List (D × D) → Prop
 | [],[]=>True
 | (x,y) :: r,(d,e) :: s=>Rp K F x d ∧ Rp K F y e ∧ PrR K F r s
 | _,_=>False
theorem PrR.mono {K:PySem.W.Frag} {F F':Hp} (e:Same F F'):∀ {ps:List (V × V)} {ds:List (D × D)},PrR K F ps ds → PrR K F' ps ds
 | [],[],_=>trivial
 | (x,y) :: r,(d,e') :: s,⟨h1,h2,h3⟩=>⟨h1.mono e,h2.mono e,PrR.mono e h3⟩
 | [],_ :: _,h=>h.elim
 | _ :: _,[],h=>h.elim

end Z
namespace Z
open PySem PySem.Spec PyProof.Rows L2
theorem Rps.reverse {K:PySem.W.Frag} {G:Hp}:∀ {xs:List V} {ds:List D},Rps K G xs ds → Rps K G xs.reverse ds.reverse
 | _,_,.nil=>.nil
 | x :: xs,d :: ds,.cons h r=>by
  rw [List.reverse_cons,List.reverse_cons]
  exact r.reverse.append (.cons h .nil)
end Z
namespace Z
open PySem PySem.Spec PyProof.Rows L2


end Z
namespace Z
open PySem PySem.Spec PyProof.Rows L2
end Z
namespace Z
open PySem PySem.Spec PyProof.Rows L2
def loN:Option Int → Option Nat
 | none=>some 0
 | some (.ofNat n)=>some n
 | _=>none


end Z
namespace Z
open PySem PySem.Spec PyProof.Rows L2
abbrev Ws (h:Heap) (z TI TO:Addr) (T:Addr) (f:Bool):Prop :=
 h.get? z = some { cls:=.type "zip",dict:=none,data:=.fields #[rawInt T,.bool f,.bool false,.ref TI,.ref TO],slots:=#[] }
section
variable {prog:Program} {w:World} {A:Around} {E:Value → Shared → Prop} {s:Shared} {z TI TO i1 i2 T:Addr} {f:Bool} {fp1 fp2:List Addr} {n1 n2 i:Nat} {P1 P2:Nat → Value → Prop} {St1 St2:Nat → Heap → Prop} {a1 a2:Value}
theorem Q6D {a:Addr} {o:Obj} {Q:Option Obj → Shared → Prop} (ho:s.heap.get? a = some o) (h:Q (some o) s):wpAny (model prog w) A (loadIfAlive a) Q E s:=by
 intro Γ p hΓ
 show Sem.wp _ _ (.loadIfAlive a .pure) _ _ _ _
 rw [Sem.wp_loadIfAlive,ho]
 exact h
theorem Q30 (hz:Ws s.heap z TI TO T f) (hT:∃ o,s.heap.get? T = some o) {Q:Bool → Shared → Prop}
  (hQ:∀ h',Ws h' z TI TO T true → Heap.SameBut z s.heap h' → Q false { s with heap:=h' }):wpAny (model prog w) A (Builtin.SmallTypes.ownedTupleIsFree (.ref z)) Q E s:=by
 obtain ⟨oT,eT⟩:=hT
 unfold Builtin.SmallTypes.ownedTupleIsFree
 refine wpAny_bind (wpAny_field hz rfl (x:=rawInt T) rfl ?_)
 show wpAny _ _ (loadIfAlive ((T:Int)).toNat >>= _) _ _ s
 rw [Int.toNat_natCast]
 refine wpAny_bind (Q6D eT ?_)
 simp only [Option.isNone_some,J1,if_false]
 refine wpAny_bind (wpAny_field hz rfl (x:=.bool f) rfl ?_)
 cases f with
 | true =>
  rw [if_neg (by decide)]
  exact wpAny_pure (hQ s.heap hz ⟨rfl,fun _ _=>rfl⟩)
 | false =>
  rw [if_pos (by decide)]
  refine wpAny_bind (wpAny_setField_rec hz (by simp) fun h' hz' hs'=>?_)
  exact wpAny_pure (hQ h' hz' hs')
theorem Q64 {Q:Value → Shared → Prop} (S:ZipSep2 z TI TO i1 i2 fp1 fp2) (D1:Draws prog w A i1 fp1 n1 P1 St1) (D2:Draws prog w A i2 fp2 n2 P2 St2)
  (hz:Ws s.heap z TI TO T f) (hT:∃ o,s.heap.get? T = some o) (hTI:IsTupOf2 s.heap TI (.ref i1) (.ref i2)) (st1:St1 i s.heap) (st2:St2 i s.heap) (hlt1:i < n1) (hlt2:i < n2)
  (hQ:∀ x1 x2 h' tk,P1 i x1 → P2 i x2 → Ws h' z TI TO T true → St1 (i + 1) h' → St2 (i + 1) h' → IsTupOf2 h' s.heap.objs.size x1 x2 → h'.objs.size = s.heap.objs.size + 1 →
   (∀ c o,c ≠ z → c ≠ TO → c ≠ i1 → c ≠ i2 → s.heap.get? c = some o → h'.get? c = some o) → Q (.ref s.heap.objs.size) { s with heap:=h',toks:=tk }) :
  wpAny (model prog w) A (Builtin.«zip.__next__» ⟨[.ref z],[]⟩) (fun fin s'=>∃ v,fin = .done (.ret v) ∧ Q v s') E s:=by
 obtain ⟨hp,g,d,tk0,os⟩:=s
 show wpAny _ _ (field (.ref z) 2 >>= _) _ _ _
 refine wpAny_bind (wpAny_field hz rfl (x:=.bool false) rfl ?_)
 show wpAny _ _ (field (.ref z) 3 >>= _) _ _ _
 refine wpAny_bind (wpAny_field hz rfl (x:=.ref TI) rfl ?_)
 refine wpAny_bind (wpAny_seqItems hTI rfl ?_)
 show wpAny _ _ (Builtin.SmallTypes.ownedTupleIsFree (.ref z) >>= _) _ _ _
 refine wpAny_bind (Q30 hz hT fun g0 hz0 hs0=>?_)
 replace hs0:Heap.SameBut z hp g0:=hs0
 simp only [J1,if_false]
 refine wpAny_bind ?_
 rw [← Array.forIn_toList]
 simp only [List.forIn_cons,List.forIn_nil]
 refine wpAny_bind (wpAny_bind (wpAny_holding ?_))
 show wpAny _ _ (Builtin.SmallTypes.nextOf (.ref i1) >>= _) _ _ ⟨g0,g,d,tk0,os⟩
 refine wpAny_bind (D1.item i _ _ _ hlt1 (D1.over st1 hs0 S.zf1) fun x1 p1 tk1 hx1 sn1 hp1=>wpAny_pure (wpAny_pure ?_))
 replace hp1:Heap.SameBut i1 g0 p1:=hp1
 refine wpAny_bind (wpAny_bind (wpAny_holding ?_))
 show wpAny _ _ (Builtin.SmallTypes.nextOf (.ref i2) >>= _) _ _ ⟨p1,g,d,tk1,os⟩
 refine wpAny_bind (D2.item i _ _ _ hlt2 (D2.over (D2.over st2 hs0 S.zf2) hp1 S.sep1_2) fun x2 p2 tk2 hx2 sn2 hp2=>wpAny_pure (wpAny_pure (wpAny_pure ?_)))
 replace hp2:Heap.SameBut i2 p1 p2:=hp2
 refine wpAny_bind (wpAny_newTuple ?_ (by show 2 ≤ sizeLine; decide))
 have hsz:p2.objs.size = hp.objs.size:=by rw [hp2.1,hp1.1,hs0.1]
 have hzz:Ws p2 z TI TO T true:=hp2.extBut _ _ S.zi2 (hp1.extBut _ _ S.zi1 hz0)
 have hj1:St1 (i + 1) p2:=D1.over sn1 hp2 S.sep2_1
 have up:∀ c o,p2.get? c = some o → (p2.push { cls:=.type "tuple",data:=.seq #[x1,x2] }).get? c = some o:=fun c o e=>Heap.get?_push_of_some _ e
 refine wpAny_pure ⟨_,rfl,?_⟩
 show Q (.ref p2.objs.size) ⟨p2.push { cls:=.type "tuple",data:=.seq #[x1,x2] },g,d,tk2,os⟩
 have hT8:IsTupOf2 (p2.push { cls:=.type "tuple",data:=.seq #[x1,x2] }) p2.objs.size x1 x2:=Heap.get?_push_size _ rfl
 rw [hsz] at hT8 ⊢
 exact hQ x1 x2 _ tk2 hx1 hx2 (up _ _ hzz) (D1.frame _ _ _ hj1 fun b _ o e=>up b o e) (D2.frame _ _ _ sn2 fun b _ o e=>up b o e) hT8 (by rw [Heap.size_push,hsz]) fun c o cz cT c1 c2 e =>
  up c o (hp2.extBut _ _ c2 (hp1.extBut _ _ c1 (hs0.extBut _ _ cz e)))
theorem Q6r {Q:Fin → Shared → Prop} (S:ZipSep2 z TI TO i1 i2 fp1 fp2) (D1:Draws prog w A i1 fp1 n1 P1 St1) (D2:Draws prog w A i2 fp2 n2 P2 St2)
  (hz:Ws s.heap z TI TO T f) (hT:∃ o,s.heap.get? T = some o) (hTI:IsTupOf2 s.heap TI (.ref i1) (.ref i2)) (st1:St1 i s.heap) (st2:St2 i s.heap) (hle1:i ≤ n1) (hle2:i ≤ n2) (hend:i = n1 ∨ i = n2)
  (hE:∀ h' tk e,(∀ c o,c ≠ z → c ≠ TO → c ≠ i1 → c ≠ i2 → s.heap.get? c = some o → h'.get? c = some o) → (∃ o,h'.get? e = some o ∧ o.cls = .type "StopIteration") → E (.ref e) { s with heap:=h',toks:=tk }) :
  wpAny (model prog w) A (Builtin.«zip.__next__» ⟨[.ref z],[]⟩) Q E s:=by
 obtain ⟨hp,g,d,tk0,os⟩:=s
 show wpAny _ _ (field (.ref z) 2 >>= _) _ _ _
 refine wpAny_bind (wpAny_field hz rfl (x:=.bool false) rfl ?_)
 show wpAny _ _ (field (.ref z) 3 >>= _) _ _ _
 refine wpAny_bind (wpAny_field hz rfl (x:=.ref TI) rfl ?_)
 refine wpAny_bind (wpAny_seqItems hTI rfl ?_)
 show wpAny _ _ (Builtin.SmallTypes.ownedTupleIsFree (.ref z) >>= _) _ _ _
 refine wpAny_bind (Q30 hz hT fun g0 hz0 hs0=>?_)
 replace hs0:Heap.SameBut z hp g0:=hs0
 simp only [J1,if_false]
 refine wpAny_bind ?_
 rw [← Array.forIn_toList]
 simp only [List.forIn_cons,List.forIn_nil]
 refine wpAny_bind (wpAny_bind (wpAny_holding ?_))
 show wpAny _ _ (Builtin.SmallTypes.nextOf (.ref i1) >>= _) _ _ ⟨g0,g,d,tk0,os⟩
 by_cases hlt1:i < n1
 ·refine wpAny_bind (D1.item i _ _ _ hlt1 (D1.over st1 hs0 S.zf1) fun x1 p1 tk1 hx1 sn1 hp1=>wpAny_pure (wpAny_pure ?_))
  replace hp1:Heap.SameBut i1 g0 p1:=hp1
  refine wpAny_bind (wpAny_bind (wpAny_holding ?_))
  show wpAny _ _ (Builtin.SmallTypes.nextOf (.ref i2) >>= _) _ _ ⟨p1,g,d,tk1,os⟩
  have hi2:i = n2:=by omega
  refine wpAny_bind (D2.done ⟨p1,g,d,tk1,os⟩ _ _ (by rw [← hi2]; exact D2.over (D2.over st2 hs0 S.zf2) hp1 S.sep1_2) fun q e hq he=>?_)
  replace hq:Heap.ExtBut i2 p1 q:=hq
  exact hE q tk1 e (fun c o cz cT c1 c2 x=>hq _ _ c2 (hp1.extBut _ _ c1 (hs0.extBut _ _ cz x))) he
 ·have hi1:i = n1:=by omega
  refine wpAny_bind (D1.done ⟨g0,g,d,tk0,os⟩ _ _ (by rw [← hi1]; exact D1.over st1 hs0 S.zf1) fun q e hq he=>?_)
  replace hq:Heap.ExtBut i1 g0 q:=hq
  exact hE q tk0 e (fun c o cz cT c1 c2 x=>hq _ _ c1 (hs0.extBut _ _ cz x)) he
theorem Q6c {Q:Option Value → Shared → Prop} (S:ZipSep2 z TI TO i1 i2 fp1 fp2) (D1:Draws prog w A.in1 i1 fp1 n1 P1 St1) (D2:Draws prog w A.in1 i2 fp2 n2 P2 St2)
  (hz:Ws s.heap z TI TO T f) (hT:∃ o,s.heap.get? T = some o) (hTI:IsTupOf2 s.heap TI (.ref i1) (.ref i2)) (st1:St1 i s.heap) (st2:St2 i s.heap) (hlt1:i < n1) (hlt2:i < n2)
  (hQ:∀ x1 x2 h' tk,P1 i x1 → P2 i x2 → Ws h' z TI TO T true → St1 (i + 1) h' → St2 (i + 1) h' → IsTupOf2 h' s.heap.objs.size x1 x2 → h'.objs.size = s.heap.objs.size + 1 →
   (∀ c o,c ≠ z → c ≠ TO → c ≠ i1 → c ≠ i2 → s.heap.get? c = some o → h'.get? c = some o) → Q (some (.ref s.heap.objs.size)) { s with heap:=h',toks:=tk }) :
  wpAny (model prog w) A (pyNext (.ref z)) Q E s:=by
 have hTy:s.TypeIs (.ref z) "zip":=⟨_,hz,rfl⟩
 unfold pyNext
 exact wpAny_bind (wpAny_attempt (wpAny_callSpecial?_slot (name:=Str.ofString "__next__") hTy F.slot_zip_next
  (wpAny_call_entry F.slot_zip_next hTy F.entry_zip_next
   (Q64 S D1 D2 hz hT hTI st1 st2 hlt1 hlt2 fun x1 x2 h' tk y1 y2 b1 d1 d2 b5 b6 b7=>wpAny_pure (hQ x1 x2 h' tk y1 y2 b1 d1 d2 b5 b6 b7)) (F.args_zip_next_1 _))))
theorem Q7Q {Q:Option Value → Shared → Prop} (S:ZipSep2 z TI TO i1 i2 fp1 fp2) (D1:Draws prog w A.in1 i1 fp1 n1 P1 St1) (D2:Draws prog w A.in1 i2 fp2 n2 P2 St2)
  (hz:Ws s.heap z TI TO T f) (hT:∃ o,s.heap.get? T = some o) (hTI:IsTupOf2 s.heap TI (.ref i1) (.ref i2)) (st1:St1 i s.heap) (st2:St2 i s.heap) (hle1:i ≤ n1) (hle2:i ≤ n2) (hend:i = n1 ∨ i = n2)
  (hQ:∀ h' tk,(∀ c o,c ≠ z → c ≠ TO → c ≠ i1 → c ≠ i2 → s.heap.get? c = some o → h'.get? c = some o) → Q none { s with heap:=h',toks:=tk }):wpAny (model prog w) A (pyNext (.ref z)) Q E s:=by
 have hTy:s.TypeIs (.ref z) "zip":=⟨_,hz,rfl⟩
 unfold pyNext
 refine wpAny_bind (wpAny_attempt (wpAny_callSpecial?_slot (name:=Str.ofString "__next__") hTy F.slot_zip_next
  (wpAny_call_entry F.slot_zip_next hTy F.entry_zip_next (Q6r S D1 D2 hz hT hTI st1 st2 hle1 hle2 hend fun h' tk e hk he=>?_) (F.args_zip_next_1 _))))
 obtain ⟨o,ho,hc⟩:=he
 refine wpAny_bind (wpAny_isInstance (T := "StopIteration") (b:=true) ⟨o,ho,hc⟩ isSubtype_stop ?_)
 exact wpAny_pure (hQ _ _ hk)
end
end Z
namespace Z
open PySem PySem.Spec PyProof.Rows L2 RT
theorem Q63:typeLookup (.type "zip") "__len__" = pure none:=by rw [typeLookup_type,builtinLookup_eq_fast]; kernel_rfl
theorem Q4K:typeLookup (.type "zip") "__length_hint__" = pure none:=by rw [typeLookup_type,builtinLookup_eq_fast]; kernel_rfl
structure Q9Y (N:Addr) (P1 P2:Nat → Value → Prop) (acc:Array Value) (i:Nat) (h:Heap) (ts:List Addr):Prop where
 ac:acc.toList = ts.map Value.ref
 nd:ts.Nodup
 ln:ts.length = i
 pr:∀ j T,ts[j]? = some T → N ≤ T ∧ ∃ x y,P1 j x ∧ P2 j y ∧ IsTupOf2 h T x y
structure ZS (N z TI TO i1 i2:Addr) (St1 St2:Nat → Heap → Prop) (i:Nat) (h:Heap):Prop where
 ti:IsTupOf2 h TI (.ref i1) (.ref i2)
 s1:St1 i h
 s2:St2 i h
 zz:(IsZip h z TI TO .none ∧ ∃ a1 a2,IsTupOf2 h TO a1 a2) ∨ ∃ T f,Ws h z TI TO T f ∧ (∃ o,h.get? T = some o) ∧ N ≤ T
abbrev IsL (h:Heap) (S:Addr) (acc:Array Value) (c:Nat):Prop:=h.get? S = some { cls:=.type "list",dict:=none,data:=.seq acc c,slots:=#[] }
section
variable {prog:Program} {w:World} {A:Around} {E:Value → Shared → Prop} {z TI TO i1 i2:Addr} {fp1 fp2:List Addr} {n1 n2:Nat} {P1 P2:Nat → Value → Prop} {St1 St2:Nat → Heap → Prop}
theorem Q9q {N:Addr} {i:Nat} {s:Shared} {Q:Option Value → Shared → Prop} (S:ZipSep2 z TI TO i1 i2 fp1 fp2) (D1:Draws prog w A.in1 i1 fp1 n1 P1 St1) (D2:Draws prog w A.in1 i2 fp2 n2 P2 St2)
  (lz:z < N) (lT:TO < N) (l1:i1 < N) (l2:i2 < N) (hN:N ≤ s.heap.objs.size) (hs:ZS N z TI TO i1 i2 St1 St2 i s.heap) (h1:i < n1) (h2:i < n2)
  (hQ:∀ x y h' tk,P1 i x → P2 i y → ZS N z TI TO i1 i2 St1 St2 (i + 1) h' → IsTupOf2 h' s.heap.objs.size x y → h'.objs.size = s.heap.objs.size + 1 →
   (∀ c o,c ≠ z → c ≠ TO → c ≠ i1 → c ≠ i2 → s.heap.get? c = some o → h'.get? c = some o) → Q (some (.ref s.heap.objs.size)) { s with heap:=h',toks:=tk }) :
  wpAny (model prog w) A (pyNext (.ref z)) Q E s:=by
 obtain ⟨ti,s1,s2,zz⟩:=hs
 rcases zz with ⟨hz,a1,a2,hTO⟩ | ⟨T,f,hz,hT,hTN⟩
 ·refine wpAny_pyNext_zipD2_item S D1 D2 hz ti hTO s1 s2 h1 h2 fun x y h' tk y1 y2 b1 b2 d1 d2 b5 b6 hk=>?_
  exact hQ x y h' tk y1 y2 ⟨hk _ _ S.TIz S.TITO S.TIi1 S.TIi2 ti,d1,d2,.inr ⟨_,false,b1,⟨_,b5⟩,hN⟩⟩ b5 b6 hk
 ·refine Q6c S D1 D2 hz hT ti s1 s2 h1 h2 fun x y h' tk y1 y2 b1 d1 d2 b5 b6 hk=>?_
  refine hQ x y h' tk y1 y2 ⟨hk _ _ S.TIz S.TITO S.TIi1 S.TIi2 ti,d1,d2,.inr ⟨_,true,b1,?_,hTN⟩⟩ b5 b6 hk
  obtain ⟨oT,eT⟩:=hT
  exact ⟨oT,hk _ _ (Qw (Qm lz hTN)) (Qw (Qm lT hTN)) (Qw (Qm l1 hTN)) (Qw (Qm l2 hTN)) eT⟩
theorem Qb0 {N:Addr} {i:Nat} {s:Shared} {Q:Option Value → Shared → Prop} (S:ZipSep2 z TI TO i1 i2 fp1 fp2) (D1:Draws prog w A.in1 i1 fp1 n1 P1 St1) (D2:Draws prog w A.in1 i2 fp2 n2 P2 St2)
  (hs:ZS N z TI TO i1 i2 St1 St2 i s.heap) (h1:i ≤ n1) (h2:i ≤ n2) (he:i = n1 ∨ i = n2)
  (hQ:∀ h' tk,(∀ c o,c ≠ z → c ≠ TO → c ≠ i1 → c ≠ i2 → s.heap.get? c = some o → h'.get? c = some o) → Q none { s with heap:=h',toks:=tk }) :
  wpAny (model prog w) A (pyNext (.ref z)) Q E s:=by
 obtain ⟨ti,s1,s2,zz⟩:=hs
 rcases zz with ⟨hz,a1,a2,hTO⟩ | ⟨T,f,hz,hT,hTN⟩
 ·exact wpAny_pyNext_zipD2_end S D1 D2 hz ti hTO s1 s2 h1 h2 he hQ
 ·exact Q7Q S D1 D2 hz hT ti s1 s2 h1 h2 he hQ
theorem Q8s {N L:Addr} {R:Result → Shared → Prop} {res:Value} (S:ZipSep2 z TI TO i1 i2 fp1 fp2) (D1:Draws prog w A.in1.in1 i1 fp1 n1 P1 St1) (D2:Draws prog w A.in1.in1 i2 fp2 n2 P2 St2)
  (lz:z < N) (lT:TO < N) (l1:i1 < N) (l2:i2 < N) (lL:L < N) (Lz:L ≠ z) (LTI:L ≠ TI) (LTO:L ≠ TO) (L1:L ∉ fp1) (L2:L ∉ fp2) (hn:min n1 n2 ≤ sizeLine) :
  ∀ (k i:Nat) (s:Shared) (acc:Array Value) (c:Nat) (ts:List Addr),min n1 n2 - i = k → i ≤ min n1 n2 → N ≤ s.heap.objs.size → ZS N z TI TO i1 i2 St1 St2 i s.heap → IsL s.heap L acc c → Q9Y N P1 P2 acc i s.heap ts →
   (∀ h' tk acc' c' ts',(∀ b o,b ≠ L → b ≠ z → b ≠ TO → b ≠ i1 → b ≠ i2 → s.heap.get? b = some o → h'.get? b = some o) → IsL h' L acc' c' → Q9Y N P1 P2 acc' (min n1 n2) h' ts' → R (.ok (.ret res)) { s with heap:=h',toks:=tk }) →
   codeAny (model prog w) A (.builtin "list.extend.loop" ⟨[.ref L,.ref z,res],[]⟩) R s:=by
 have Li1:L ≠ i1:=fun e=>L1 (e ▸ S.mem1)
 have Li2:L ≠ i2:=fun e=>L2 (e ▸ S.mem2)
 intro k
 induction k with
 | zero =>
  intro i s acc c ts hk hi hN hs hL ha hR
  have hin:i = min n1 n2:=by omega
  subst hin
  refine codeAny_builtin F.entry_extend_loop ?_
  rw [Around.under_plainId F.plain_extend_loop _]
  show wpAny _ A.in1 (pyNext (.ref z) >>= _) _ _ s
  refine wpAny_bind (Qb0 S D1 D2 hs (by omega) (by omega) (by omega) fun h' tk hk=>?_)
  refine wpAny_pure (hR h' tk acc c ts (fun b o _ bz bT b1 b2 e=>hk b o bz bT b1 b2 e) (hk _ _ Lz LTO Li1 Li2 hL) ⟨ha.ac,ha.nd,ha.ln,fun j T hj=>?_⟩)
  obtain ⟨hT,x,y,p1,p2,p3⟩:=ha.pr j T hj
  exact ⟨hT,x,y,p1,p2,hk _ _ (Qw (Qm lz hT)) (Qw (Qm lT hT)) (Qw (Qm l1 hT)) (Qw (Qm l2 hT)) p3⟩
 | succ k ih =>
  intro i s acc c ts hk hi hN hs hL ha hR
  have hlt:i < min n1 n2:=by omega
  refine codeAny_builtin F.entry_extend_loop ?_
  rw [Around.under_plainId F.plain_extend_loop _]
  show wpAny _ A.in1 (pyNext (.ref z) >>= _) _ _ s
  refine wpAny_bind (Q9q S D1 D2 lz lT l1 l2 hN hs (by omega) (by omega) fun x y h' tk y1 y2 hs' hT hsz hk'=>?_)
  have hL':IsL h' L acc c:=hk' _ _ Lz LTO Li1 Li2 hL
  show wpAny _ A.in1 (updateSeq L (·.push (.ref s.heap.objs.size)) >>= _) _ _ _
  have hacs:acc.size = i:=by rw [← Array.length_toList,ha.ac,Q3,ha.ln]
  have ou:∀ b o,b ≠ L → h'.get? b = some o → (h'.update L (Obj.mapSeq (·.push (.ref s.heap.objs.size)))).get? b = some o:=fun b o hb e=>(Heap.get?_update_other _ _ (Ne.symm hb)).trans e
  have Nge:∀ {T:Addr},N ≤ T → T ≠ L ∧ T ≠ z ∧ T ≠ TO ∧ T ≠ i1 ∧ T ≠ i2:=fun hT=>⟨Qw (Qm lL hT),Qw (Qm lz hT),Qw (Qm lT hT),Qw (Qm l1 hT),Qw (Qm l2 hT)⟩
  refine wpAny_bind ?_
  refine wpAny_updateSeq (s:={ s with heap:=h',toks:=tk }) hL' rfl (wpAny_pure ⟨plainId_quiet F.plain_extend_loop _,ih (i + 1) _ (acc.push (.ref s.heap.objs.size)) _ (ts ++ [s.heap.objs.size]) (by omega) hlt ?_ ?_ (Heap.get?_update_self _ hL' rfl) ?_ fun h2 tk2 acc' c' ts' hk2 hL2 ha2=>?_⟩)
   (by rw [hacs]; omega) (by show (acc.push _).size ≤ sizeLine + 1; rw [Array.size_push,hacs]; omega)
  ·show N ≤ (h'.update L _).objs.size
   rw [(Heap.SameBut.update ..).1,hsz]
   exact Nat.le_succ_of_le hN
  ·obtain ⟨ti,s1,s2,zz⟩:=hs'
   refine ⟨ou _ _ (Ne.symm LTI) ti,D1.frame _ _ _ s1 fun b hb o e=>ou b o (fun q=>L1 (q ▸ hb)) e,D2.frame _ _ _ s2 fun b hb o e=>ou b o (fun q=>L2 (q ▸ hb)) e,?_⟩
   rcases zz with ⟨hz,a1,a2,hTO⟩ | ⟨T,f,hz,⟨oT,eT⟩,hTN⟩
   ·exact .inl ⟨ou _ _ (Ne.symm Lz) hz,a1,a2,ou _ _ (Ne.symm LTO) hTO⟩
   ·exact .inr ⟨T,f,ou _ _ (Ne.symm Lz) hz,⟨oT,ou _ _ (Nge hTN).1 eT⟩,hTN⟩
  ·refine ⟨by rw [Array.toList_push,ha.ac,List.map_append]; rfl,?_,by rw [Qc,ha.ln]; rfl,fun j T hj=>?_⟩
   ·rw [List.nodup_append]
    refine ⟨ha.nd,by simp,fun a hm b hb=>?_⟩
    rw [Qt] at hb
    subst hb
    intro q
    subst q
    obtain ⟨j,hj⟩:=List.mem_iff_getElem?.mp hm
    obtain ⟨_,x',y',_,_,p3⟩:=ha.pr j _ hj
    exact Nat.lt_irrefl _ (Heap.lt_size p3)
   ·rcases Nat.lt_or_ge j ts.length with hj' | hj'
    ·rw [Q9 hj'] at hj
     obtain ⟨hTN,x',y',p1,p2,p3⟩:=ha.pr j T hj
     have q:=Nge hTN
     exact ⟨hTN,x',y',p1,p2,ou _ _ q.1 (hk' _ _ q.2.1 q.2.2.1 q.2.2.2.1 q.2.2.2.2 p3)⟩
    ·rw [Qo hj'] at hj
     have hji:j = i:=by
      rw [ha.ln] at hj hj'
      rcases Nat.lt_or_ge i j with c0 | c0
      ·rw [Qn (by simp; omega)] at hj; cases hj
      ·omega
     subst hji
     rw [ha.ln,Nat.sub_self] at hj
     cases hj
     exact ⟨hN,x,y,y1,y2,ou _ _ (Nge hN).1 hT⟩
  ·exact hR h2 tk2 acc' c' ts' (fun b o bL bz bT b1 b2 e=>hk2 b o bL bz bT b1 b2 (ou b o bL (hk' b o bz bT b1 b2 e))) hL2 ha2
end
end Z
namespace Z
open PySem PySem.Spec PyProof.Rows L2 RT
section
variable {prog:Program} {w:World} {A:Around} {E:Value → Shared → Prop} {s:Shared} {z TI TO i1 i2:Addr} {fp1 fp2:List Addr} {n1 n2:Nat} {P1 P2:Nat → Value → Prop} {St1 St2:Nat → Heap → Prop}
theorem Q6K {f0:Value} {Q:Bool → Shared → Prop} (hz:IsZip s.heap z TI TO f0) (h:Q true s):wpAny (model prog w) A (Builtin.List.listLengthHint (.ref z)) Q E s:=by
 have hT:s.TypeIs (.ref z) "zip":=⟨_,hz,rfl⟩
 unfold Builtin.List.listLengthHint
 refine wpAny_bind (wpAny_specialOf hT Q63 ?_)
 show wpAny _ _ (specialOf (Value.ref z) (Str.ofString "__length_hint__") >>= _) _ _ _
 refine wpAny_bind (wpAny_specialOf hT Q4K ?_)
 exact wpAny_pure h
theorem Q7A {L:Addr} {R:Result → Shared → Prop} (S:ZipSep2 z TI TO i1 i2 fp1 fp2) (D1:Draws prog w A.in1.in1 i1 fp1 n1 P1 St1) (D2:Draws prog w A.in1.in1 i2 fp2 n2 P2 St2)
  (lz:z < s.heap.objs.size) (lT:TO < s.heap.objs.size) (l1:i1 < s.heap.objs.size) (l2:i2 < s.heap.objs.size) (Lz:L ≠ z) (LTI:L ≠ TI) (LTO:L ≠ TO) (L1:L ∉ fp1) (L2:L ∉ fp2) (hn:min n1 n2 ≤ sizeLine)
  (hz:IsZip s.heap z TI TO .none) (hTO:IsTupOf2 s.heap TO .none .none) (ti:IsTupOf2 s.heap TI (.ref i1) (.ref i2)) (s1:St1 0 s.heap) (s2:St2 0 s.heap)
  (hS:s.heap.get? L = some { cls:=.type "list",data:=.seq #[] })
  (hR:∀ (h':Heap) (tk:Nat) (acc:Array Value) (c:Nat) (ts:List Addr),(∀ b o,b ≠ L → b ≠ z → b ≠ TO → b ≠ i1 → b ≠ i2 → s.heap.get? b = some o → h'.get? b = some o) → IsL h' L acc c → Q9Y s.heap.objs.size P1 P2 acc (min n1 n2) h' ts → R (.ok (.ret .none)) { s with heap:=h',toks:=tk }) :
  wpAny (model prog w) A.in1 (Builtin.«list.__init__» ⟨[.ref L,.ref z],[]⟩)
   (fun fin s'=>match fin with | .done f=>R (.ok f) s' | .again c'=>c'.quiet = true ∧ codeAny (model prog w) A c' R s') (fun e s'=>R (.error e) s') s:=by
 have lL:L < s.heap.objs.size:=Heap.lt_size hS
 show wpAny _ A.in1 (do let old ← Builtin.List.listItems (.ref L); Builtin.List.listUpdate (.ref L) (fun _=>#[]); letGo old.toList.reverse; Builtin.List.listExtendWith (.ref L) (.ref z) .none) _ _ s
 refine wpAny_bind ?_
 unfold Builtin.List.listItems
 refine wpAny_bind (wpAny_seqItems hS rfl (wpAny_pure ?_))
 show wpAny _ A.in1 (updateSeq L (fun _=>#[]) >>= fun _=>letGo (#[]:Array Value).toList.reverse >>= fun _=>Builtin.List.listExtendWith (.ref L) (.ref z) .none) _ _ s
 refine wpAny_bind (wpAny_updateSeq hS rfl ?_)
 have hS₂:=Heap.get?_update_self (Obj.mapSeq (fun _=>(#[]:Array Value))) hS rfl
 have oth:∀ b o,b ≠ L → s.heap.get? b = some o → (s.heap.update L (Obj.mapSeq (fun _=>(#[]:Array Value)))).get? b = some o :=
  fun b o hb e=>(Heap.get?_update_other _ _ (Ne.symm hb)).trans e
 refine wpAny_bind (wpAny_letGo ?_)
 have sz1:(s.heap.update L (Obj.mapSeq (fun _=>(#[]:Array Value)))).objs.size = s.heap.objs.size:=(Heap.SameBut.update ..).1
 generalize hs1:({ s with heap:=s.heap.update L (Obj.mapSeq (fun _=>(#[]:Array Value))) }:Shared) = sA
 have szA:sA.heap.objs.size = s.heap.objs.size:=by subst hs1; exact sz1
 have othA:∀ b o,b ≠ L → s.heap.get? b = some o → sA.heap.get? b = some o:=by subst hs1; exact oth
 have hSA:sA.heap.get? L = some { cls:=.type "list",data:=.seq #[] }:=by subst hs1; exact hS₂
 have es:∀ h' tk,({ s with heap:=h',toks:=tk }:Shared) = { sA with heap:=h',toks:=tk }:=by
  subst hs1
  intro h' tk
  rfl
 have hzA:IsZip sA.heap z TI TO .none:=othA _ _ (Ne.symm Lz) hz
 have hT:sA.TypeIs (.ref z) "zip":=⟨_,hzA,rfl⟩
 have h1:Builtin.List.listSameRef (.ref L) (.ref z) = false:=by simp [Builtin.List.listSameRef,Lz]
 unfold Builtin.List.listExtendWith
 refine wpAny_bind (wpAny_typeOf hT ?_)
 rw [if_neg (by rw [h1]; decide)]
 refine wpAny_bind (wpAny_pyIter_zip hzA ?_)
 refine wpAny_bind (wpAny_holding (Q6K hzA ?_))
 rw [if_pos (by decide)]
 refine wpAny_bind (wpAny_bind (wpAny_rule ?_))
 unfold Builtin.List.listTouch
 refine wpAny_pure (wpAny_bind (wpAny_bind ?_))
 show wpAny _ A.in1 (updateSeq L (·.push .none)) _ _ sA
 refine wpAny_updateSeq hSA rfl ?_
 have hSB:=Heap.get?_update_self (Obj.mapSeq (·.push Value.none)) hSA rfl
 show wpAny _ A.in1 (updateSeq L (·.pop)) _ _ _
 refine wpAny_updateSeq (s:={ sA with heap:=sA.heap.update L (Obj.mapSeq (·.push .none)) }) hSB rfl ?_
 have hSC:=Heap.get?_update_self (h:=sA.heap.update L (Obj.mapSeq (·.push .none))) (Obj.mapSeq (·.pop)) hSB rfl
 have othC:∀ b o,b ≠ L → s.heap.get? b = some o → ((sA.heap.update L (Obj.mapSeq (·.push .none))).update L (Obj.mapSeq (·.pop))).get? b = some o :=
  fun b o hb e=>(Heap.get?_update_other _ _ (Ne.symm hb)).trans ((Heap.get?_update_other _ _ (Ne.symm hb)).trans (othA b o hb e))
 have szC:((sA.heap.update L (Obj.mapSeq (·.push .none))).update L (Obj.mapSeq (·.pop))).objs.size = s.heap.objs.size:=by
  rw [(Heap.SameBut.update ..).1,(Heap.SameBut.update ..).1,szA]
 have hSD:∃ c,IsL ((sA.heap.update L (Obj.mapSeq (·.push .none))).update L (Obj.mapSeq (·.pop))) L #[] c:=⟨_,hSC⟩
 clear hSC
 show wpAny _ A.in1 _ _ _ { sA with heap:=(sA.heap.update L (Obj.mapSeq (·.push .none))).update L (Obj.mapSeq (·.pop)) }
 revert othC szC hSD
 generalize (sA.heap.update L (Obj.mapSeq (·.push .none))).update L (Obj.mapSeq (·.pop)) = hC
 intro othC szC ⟨c,hSC⟩
 have loop:=Q8s (prog:=prog) (w:=w) (A:=A) (R:=R) (res:=.none) (N:=s.heap.objs.size) S D1 D2 lz lT l1 l2 lL Lz LTI LTO L1 L2 hn (min n1 n2) 0 { sA with heap:=hC } #[] c [] rfl (Jh _) (Jw szC.symm)
  ⟨othC _ _ (Ne.symm LTI) ti,D1.frame _ _ _ s1 fun b hb o e=>othC b o (fun q=>L1 (q ▸ hb)) e,D2.frame _ _ _ s2 fun b hb o e=>othC b o (fun q=>L2 (q ▸ hb)) e,.inl ⟨othC _ _ (Ne.symm Lz) hz,_,_,othC _ _ (Ne.symm LTO) hTO⟩⟩
  hSC ⟨rfl,List.nodup_nil,rfl,fun j T hj=>by simp at hj⟩ fun h' tk acc' c' ts' hk hL ha=>by
   have:=hR h' tk acc' c' ts' (fun b o bL bz bT b1 b2 e=>hk b o bL bz bT b1 b2 (othC b o bL e)) hL ha
   rw [es] at this
   exact this
 exact wpAny_pure ⟨plainId_quiet F.plain_extend_loop _,loop⟩
end
end Z
namespace Z
open PySem PySem.Spec PyProof.Rows L2 RT
def Zj (H:Hp) (L:List (Addr × HO)):Hp:=L.foldl (fun H p=>upd H p.1 p.2) H
theorem Q1k (H:Hp) (p:Addr × HO) (L:List (Addr × HO)):Zj H (p :: L) = Zj (upd H p.1 p.2) L:=rfl
theorem Q5C (H:Hp) (L:List (Addr × HO)) (p:Addr × HO):Zj H (L ++ [p]) = upd (Zj H L) p.1 p.2:=by
 unfold Zj
 rw [List.foldl_append]
 rfl
theorem Z9:∀ (L:List (Addr × HO)) (H:Hp) {b:Addr},(∀ p ∈ L,b ≠ p.1) → Zj H L b = H b
 | [],_,_,_=>rfl
 | p :: L,H,b,h=>by
  rw [Q1k,Z9 L _ fun q hq=>h q (Qb _ hq),upd_ne (h p (Qe ..))]
theorem Q2y:∀ (L:List (Addr × HO)) (H:Hp) {b:Addr} {o:HO},Zj H L b = some o → (b,o) ∈ L ∨ H b = some o
 | [],_,_,_,h=>.inr h
 | p :: L,H,b,o,h=>by
  rw [Q1k] at h
  rcases Q2y L _ h with h | h
  ·exact .inl (Qb _ h)
  ·by_cases c:b = p.1
   ·subst c
    rw [upd_same] at h
    cases h
    exact .inl (Qe ..)
   ·rw [upd_ne c] at h
    exact .inr h
section
variable {X:Cx} {pins:List (Addr × Obj)} {σ:L2.St} {H:Hp} {s:Shared} {h':Heap}
theorem Q8C {t':Nat} (I:Inv X pins σ H s) (k:∀ b u,s.heap.get? b = some u → h'.get? b = some u) (L:List (Addr × HO)) (hp:∀ p ∈ L,s.heap.objs.size ≤ p.1)
  (new:∀ a o,(a,o) ∈ L → ObjOk X.prog X.w (Zj H L) h' a o):Inv X pins σ (Zj H L) { s with heap:=h',toks:=t' }:=by
 have out:∀ {b:Addr} {u:HO},H b = some u → Zj H L b = some u:=fun {b u} e=>by
  rw [Z9 L H fun p hpm q=>?_]
  ·exact e
  ·have:=I.hok.fresh (hp p hpm)
   rw [← q,e] at this
   cases this
 refine I.un ⟨fun b o q _ _ _=>k b o q,fun b o q _ _ _=>⟨o.slots,k b o q⟩,fun b o q n _=>?_,fun b o q _=>⟨o,k b o q⟩,fun b xs q=>out q,fun b o u q=>out q,fun b ps q=>⟨#[],by rw [out q]; simp⟩⟩ fun b o e=>?_
 ·rw [Z9 L H fun p hpm=>Je (Qm (Heap.lt_size q) (hp p hpm))]
  exact n
 ·rcases Q2y L H e with z | z
  ·exact new b o z
  ·exact (I.hok b o z).stay (fun c v _ q=>k c v q) (fun c q=>out q) fun c xs q=>out q
end
def Sq (K:PySem.W.Frag) (H:Hp) (x:V) (xs:List V):Prop:=∃ a,x = .ref a ∧ (SqL K H a xs ∨ SqT K H a xs)
theorem Q6N {X:Cx} {pins:List (Addr × Obj)} {σ:L2.St} {H:Hp} {s:Shared} {x:V} {xs:List V} {u:Value} (I:Inv X pins σ H s) (r:RelV x u) (h:Sq X.K H x xs) :
  ∃ (o:Obj) (l:Addr) (its:List Value) (Hb:Heap → Prop),Begins u o Hb ∧ Hb s.heap ∧ l < s.heap.objs.size ∧ Vals xs its ∧ its.length ≤ sizeLine ∧
   ∀ (prog:Program) (w:World) (A:Around) (it:Addr),A.handled = none → l ≠ it → ∃ St:Nat → Heap → Prop,Draws prog w A it [it,l] its.length (fun i v=>its[i]? = some v) St ∧
    ∀ h',h'.get? it = some o → (∀ c o,s.heap.get? c = some o → h'.get? c = some o) → St 0 h':=by
 obtain ⟨a,rfl,h⟩:=h
 cases r
 rcases h with h | h
 ·obtain ⟨its,rv,p,hz⟩:=I.list h
  refine ⟨_,a,its,_,begins_list a its.toArray,p.isList,p.lt,rv,by rw [← rv.length]; exact hz,?_⟩
  intro prog w A it hh hne
  have D:Draws prog w A it [it,a] its.length (fun i v=>its[i]? = some v) (fun i h=>h.IsListIter it a i ∧ h.IsList a its.toArray):=by
   have:=Draws.list (prog:=prog) (w:=w) (A:=A) hh it a hne its.toArray
   simpa using this
  exact ⟨_,D,fun h' e k=>⟨⟨_,e,rfl,rfl⟩,p.isList.at fun o q=>k _ o q⟩⟩
 ·obtain ⟨its,rv,p,hz⟩:=I.tuple h
  have pt:s.heap.IsTuple a its.toArray:=p
  obtain ⟨ob,eo,_⟩:=id p
  refine ⟨_,a,its,_,begins_tuple a its.toArray,pt,Heap.lt_size eo,rv,by rw [← rv.length]; exact hz,?_⟩
  intro prog w A it hh hne
  have D:Draws prog w A it [it,a] its.length (fun i v=>its[i]? = some v) (fun i h=>h.IsTupleIter it a i ∧ h.IsTuple a its.toArray):=by
   have:=Draws.tuple (prog:=prog) (w:=w) (A:=A) hh it a hne its.toArray
   simpa using this
  exact ⟨_,D,fun h' e k=>⟨⟨_,e,rfl,rfl⟩,pt.at fun o q=>k _ o q⟩⟩
def prs (xs ys:List V):List HO:=(xs.zip ys).map fun p=>.tup [p.1,p.2]
def Q96 (K:PySem.W.Frag) (ta:TA):TE:=fun σ H Q=>ta σ H fun vs H1=>∃ x y xs ys,vs = [x,y] ∧ Sq K H1 x xs ∧ Sq K H1 y ys ∧
 ∀ (ts:List Addr) (q:Addr),ts.length = min xs.length ys.length → ts.Nodup → q ∉ ts → (∀ T ∈ ts,H1 T = none) → H1 q = none → Q (.ref q) (Zj H1 (ts.zip (prs xs ys) ++ [(q,.lst (ts.map V.ref))]))
theorem Q33:∀ ts:List Addr,Vals (ts.map V.ref) (ts.map Value.ref)
 | []=>.nil
 | t :: ts=>.cons (show RelV (V.ref t) (Value.ref t) from rfl) (Q33 ts)
theorem Q5W {X:Cx} {e e2:Expr} {ta:TA} {p p2 pos pos2:Pos} (hc:X.calm = true) (hg:Gl X "list") (hm:X.mg "list" = none) (hg2:Gl X "zip") (hm2:X.mg "zip" = none) (ha:PA X [e,e2] ta)
  (hs:starEach [e,e2] X.env = (false,eval e X.env) :: starEach [e2] X.env:=by rfl) (hpl:(backTo pos2 (starEach [e2] X.env)).any (·.1) = false:=by rfl)
  (hs2:starEach [.Call (.Name "zip" p2) [e,e2] [] pos2] X.env = (false,eval (.Call (.Name "zip" p2) [e,e2] [] pos2) X.env) :: starEach [] X.env:=by rfl) :
  PE X (.Call (.Name "list" p) [.Call (.Name "zip" p2) [e,e2] [] pos2] [] pos) (Q96 X.K ta):=by
 refine ⟨fun pins s σ H Q I h=>?_⟩
 refine Call_ (ld_blt I hg hm boot_list (PyProof.Rows.callWith_type1 (args_cons (Call_ (ld_blt I hg2 hm2 PyProof.Rows.boot_zip (PyProof.Rows.callWith_type1 (thn (ha.run pos2 pins s σ H _ I h) fun us s1 ⟨vs,H1,I1,r1,q1⟩=>?_) hs hpl))) hs2) hs2 rfl))
 obtain ⟨x,y,xs,ys,ev,hx,hy,q⟩:=q1
 subst ev
 cases r1 with
 | cons ra rr =>
 cases rr with
 | cons rb rr =>
 cases rr
 rename_i ua ub
 obtain ⟨o1,l1,its1,Hb1,B1,hb1,lt1,rv1,z1,D1⟩:=Q6N I1 ra hx
 obtain ⟨o2,l2,its2,Hb2,B2,hb2,lt2,rv2,z2,D2⟩:=Q6N I1 rb hy
 refine zip_begins2 B1 B2 hb1 hb2 fun h' hz hTI hTO g1 g2 hsz hk=>args_nil ?_
 have hh:=I1.ok.hd hc
 generalize hN:s1.heap.objs.size = N at *
 obtain ⟨St1,Dr1,st1⟩:=D1 X.prog X.w X.A.in1.in1.in1 N hh (Je lt1)
 obtain ⟨St2,Dr2,st2⟩:=D2 X.prog X.w X.A.in1.in1.in1 (N + 1) hh (Je (Nat.lt_succ_of_lt lt2))
 have S:=zip_sep2 (N:=N) (fp1:=[l1]) (fp2:=[l2]) (fun b hb=>by rw [Qt] at hb; subst hb; exact lt1) (fun b hb=>by rw [Qt] at hb; subst hb; exact lt2)
 refine callType_codes (Q₁:=fun obj s₁=>obj = .ref h'.objs.size ∧ s₁ = { s1 with heap:=h'.push { cls:=.type "list",data:=.seq #[] } }) F.called_list (F.typeCall_list_1 _) F.entry_list_init
  (code_list_new _ ⟨rfl,rfl⟩) fun obj s₁ h₁=>?_
 obtain ⟨rfl,rfl⟩:=h₁
 have kp:∀ b o,h'.get? b = some o → (h'.push { cls:=.type "list",data:=.seq #[] }).get? b = some o:=fun b o e=>Heap.get?_push_of_some _ e
 have hS:(h'.push { cls:=.type "list",data:=.seq #[] }).get? h'.objs.size = some { cls:=.type "list",data:=.seq #[] }:=Heap.get?_push_size _ rfl
 have sz6:(h'.push { cls:=.type "list",data:=.seq #[] }).objs.size = N + 6:=by rw [Heap.size_push,hsz]
 rw [hsz] at hS ⊢
 refine ⟨⟨_,hS,rfl⟩,F.args_list_init_2 _ _,Q7A (A:=X.A.in1) (s:={ s1 with heap:=h'.push { cls:=.type "list",data:=.seq #[] } }) S Dr1 Dr2 ?_ ?_ ?_ ?_ ?_ ?_ ?_ ?_ ?_ ?_ (kp _ _ hz) (kp _ _ hTO) (kp _ _ hTI)
  (st1 _ (kp _ _ g1) fun c o e=>kp _ _ (hk c o e)) (st2 _ (kp _ _ g2) fun c o e=>kp _ _ (hk c o e)) hS fun h2 tk acc c ts hk2 hL hP=>?_⟩
 ·show N + 4 < (h'.push _).objs.size
  rw [sz6]
  exact Jg (by decide) N
 ·show N + 3 < (h'.push _).objs.size
  rw [sz6]
  exact Jg (by decide) N
 ·show N < (h'.push _).objs.size
  rw [sz6]
  exact Nat.lt_add_of_pos_right (by decide)
 ·show N + 1 < (h'.push _).objs.size
  rw [sz6]
  exact Jg (by decide) N
 ·exact Qw (Jg (by decide) N)
 ·exact Qw (Jg (by decide) N)
 ·exact Qw (Jg (by decide) N)
 ·intro hm
  rcases Ql.mp hm with e | hm
  ·exact absurd e (Qw (Nat.lt_add_of_pos_right (by decide)))
  ·rw [Qt] at hm
   exact absurd hm (Qw (Qm lt1 (J4 _ _)))
 ·intro hm
  rcases Ql.mp hm with e | hm
  ·exact absurd e (Qw (Jg (by decide) N))
  ·rw [Qt] at hm
   exact absurd hm (Qw (Qm lt2 (J4 _ _)))
 ·omega
 ·have hPN:∀ {j:Nat} {T:Addr},ts[j]? = some T → N + 6 ≤ T ∧ ∃ x y,its1[j]? = some x ∧ its2[j]? = some y ∧ IsTupOf2 h2 T x y:=fun {j T} hj=>by
   have:=hP.pr j T hj
   rw [show ({ s1 with heap:=h'.push { cls:=.type "list",data:=.seq #[] } }:Shared).heap.objs.size = N + 6 from sz6] at this
   exact this
  have hTN:∀ {T:Addr},T ∈ ts → N + 6 ≤ T:=fun {T} hT=>by
   obtain ⟨j,hj⟩:=List.mem_iff_getElem?.mp hT
   exact (hPN hj).1
  have kk:∀ b u,s1.heap.get? b = some u → h2.get? b = some u:=fun b u e=>by
   have lt:b < N:=by rw [← hN]; exact Heap.lt_size e
   exact hk2 b u (Je (Qm lt (J4 _ _))) (Je (Qm lt (J4 _ _))) (Je (Qm lt (J4 _ _))) (Je lt) (Je (Qm lt (J4 _ _))) (kp b u (hk b u e))
  have lz:ts.length ≤ sizeLine:=by rw [hP.ln]; omega
  have frN:∀ {T:Addr},N ≤ T → H1 T = none:=fun {T} hT=>I1.hok.fresh (by rw [hN]; exact hT)
  refine ⟨rfl,.ref (N + 5),_,Q8C (t':=tk) I1 kk (ts.zip (prs xs ys) ++ [((N + 5:Nat),.lst (ts.map V.ref))]) (fun p hp=>?_) (fun a o ho=>?_),rfl,q ts (N + 5) ?_ hP.nd ?_ (fun T hT=>frN (Jq (J4 _ _) (hTN hT))) (frN (J4 _ _))⟩
  ·rw [hN]
   rcases Qj.mp hp with hp | hp
   ·exact Jq (J4 _ _) (hTN (List.of_mem_zip hp).1)
   ·rw [Qt] at hp
    subst hp
    exact J4 _ _
  ·rcases Qj.mp ho with ho | ho
   ·obtain ⟨j,hj⟩:=List.mem_iff_getElem?.mp ho
    rw [Jt] at hj
    obtain ⟨hj1,hj2⟩:=hj
    dsimp only at hj1 hj2
    obtain ⟨_,x',y',e1,e2,e3⟩:=hPN hj1
    unfold prs at hj2
    rw [Qd] at hj2
    cases e4:(xs.zip ys)[j]? with
    | none=>rw [e4] at hj2; cases hj2
    | some pq =>
     rw [e4] at hj2
     cases hj2
     rw [Jt] at e4
     obtain ⟨u1,a1,b1⟩:=rv1.get e4.1
     obtain ⟨u2,a2,b2⟩:=rv2.get e4.2
     rw [e1] at a1
     rw [e2] at a2
     cases a1
     cases a2
     exact ⟨by show 2 ≤ sizeLine; decide,[x',y'],.cons b1 (.cons b2 .nil),⟨_,e3,rfl,_,rfl⟩⟩
   ·rw [Qt] at ho
    cases ho
    refine ⟨by rw [Q3]; exact lz,acc.toList,c,by rw [hP.ac]; exact Q33 ts,?_⟩
    rw [Array.toArray_toList]
    exact hL
  ·rw [hP.ln,rv1.length,rv2.length]
  ·intro hm
   have:=hTN hm
   exact absurd this (Nat.not_le_of_lt (Jg (by decide) N))
end Z
namespace Z
open PySem PySem.Spec PyProof.Rows L2
section
variable {K:PySem.W.Frag} {Y:Fx} {δ:List Sl} {σ:L2.St} {A:Nat → List Addr}
theorem Q2X:∀ (L:List (Addr × HO)) {F H:Hp},SR K Y F H δ σ A → (L.map (·.1)).Nodup → (∀ p ∈ L,H p.1 = none) →
  SR K Y (Zj F L) (Zj H L) δ σ A ∧ Stp A [] F H (Zj F L) (Zj H L) ∧ (∀ p ∈ L,Zj F L p.1 = some p.2)
 | [],F,H,S,_,_=>⟨S,Stp.refl,fun _ h=>nomatch h⟩
 | p :: L,F,H,S,nd,fr=>by
  rw [Qq,Jv] at nd
  have hp:=fr p (Qe ..)
  have S1:SR K Y (upd F p.1 p.2) (upd H p.1 p.2) δ σ A:=S.laid hp
  have st1:Stp A [] F H (upd F p.1 p.2) (upd H p.1 p.2):=Stp.laid S hp
  have fr1:∀ q ∈ L,upd H p.1 p.2 q.1 = none:=fun q hq=>by
   rw [upd_ne (fun e=>nd.1 (Jx.mpr ⟨q,hq,e⟩))]
   exact fr q (Qb _ hq)
  obtain ⟨a,b,c⟩:=Q2X L S1 nd.2 fr1
  refine ⟨a,Xq S1 st1 b,fun q hq=>?_⟩
  rcases Ql.mp hq with rfl | hq
  ·rw [Q1k,Z9 L _ fun r hr e=>nd.1 (Jx.mpr ⟨r,hr,e.symm⟩)]
   exact upd_same
  ·exact c q hq
end
def sqD:D → Option (List D)
 | .list ds=>some ds
 | .tuple ds=>some ds
 | _=>none
def Q44 (p:D × D):D:=.tuple [p.1,p.2]
def Q52:List D → Option D
 | [d,e]=>(sqD d).bind fun a=>(sqD e).map fun b=>.list ((a.zip b).map Q44)
 | _=>none
theorem Q9E {K:PySem.W.Frag} {Y:Fx} {F H:Hp} {δ:List Sl} {σ:L2.St} {A:Nat → List Addr} {R:List Nat} {v:V} {d:D} {ds:List D} (S:SR K Y F H δ σ A) (r:Vw K F H A R v d) (h:sqD d = some ds):∃ xs,Sq K H v xs ∧ Rps K F xs ds:=by
 unfold sqD at h
 split at h
 ·cases h
  obtain ⟨a,xs,rfl,h1,h2⟩:=r.list S
  exact ⟨xs,⟨a,rfl,.inl (SqL.of h1)⟩,h2⟩
 ·cases h
  obtain ⟨a,xs,rfl,h0,h1,h2⟩:=r.tup S
  exact ⟨xs,⟨a,rfl,.inr h1⟩,h2⟩
 ·cases h
theorem Q2S {K:PySem.W.Frag} {F':Hp}:∀ {ts:List Addr} {xs ys:List V} {ds es:List D},Rps K F' xs ds → Rps K F' ys es → ts.length = min xs.length ys.length → (∀ p ∈ ts.zip (prs xs ys),F' p.1 = some p.2) → Rps K F' (ts.map V.ref) ((ds.zip es).map Q44)
 | [],xs,ys,ds,es,r1,r2,hl,_=>by
  have e1:=r1.length
  have e2:=r2.length
  have:(ds.zip es) = []:=by
   apply List.eq_nil_of_length_eq_zero
   rw [List.length_zip]
   simp only [List.length_nil] at hl
   omega
  rw [this]
  exact .nil
 | t :: ts,x :: xs,y :: ys,d :: ds,e :: es,.cons a1 r1,.cons a2 r2,hl,h=>by
  have h0:F' t = some (.tup [x,y]):=h (t,.tup [x,y]) (Qe ..)
  refine .cons (.tup (.inl (.inl h0)) (.cons a1 (.cons a2 .nil))) (Q2S r1 r2 (by simp only [Qu] at hl; omega) fun p hp=>h p (Qb _ hp))
 | t :: ts,[],ys,ds,es,_,_,hl,_=>by simp at hl
 | t :: ts,x :: xs,[],ds,es,_,_,hl,_=>by simp at hl
theorem Q5T {X:Cx} {e e2:Expr} {f} {R M:List Nat} {p p2 pos pos2:Pos} (hc:X.calm = true) (hb:Gl X "list" ∧ X.mg "list" = none) (hz:Gl X "zip" ∧ X.mg "zip" = none) (ha:AV X [e,e2] f R M)
  (hs:starEach [e,e2] X.env = (false,eval e X.env) :: starEach [e2] X.env:=by rfl) (hpl:(backTo pos2 (starEach [e2] X.env)).any (·.1) = false:=by rfl)
  (hs2:starEach [.Call (.Name "zip" p2) [e,e2] [] pos2] X.env = (false,eval (.Call (.Name "zip" p2) [e,e2] [] pos2) X.env) :: starEach [] X.env:=by rfl) :
  NV X (.Call (.Name "list" p) [.Call (.Name "zip" p2) [e,e2] [] pos2] [] pos) (fA Q52 f) M:=by
 obtain ⟨t,pe,q⟩:=ha
 refine ⟨_,Q5W hc hb.1 hb.2 hz.1 hz.2 pe hs hpl hs2,fun Y F H δ σ A S z δ' e0 Q k=>?_⟩
 obtain ⟨ds,e1,e3⟩:=Q3D e0
 unfold Q52 at e3
 split at e3
 ·rename_i d e'
  cases e4:sqD d with
  | none=>rw [e4] at e3; cases e3
  | some a =>
  cases e5:sqD e' with
  | none=>rw [e4,e5] at e3; cases e3
  | some b =>
  rw [e4,e5] at e3
  cases e3
  refine q Y F H δ σ A S _ δ' e1 _ fun vs F1 H1 st1 S1 r1=>?_
  obtain ⟨v,u,rfl,ra,rb⟩:=r1.two
  obtain ⟨xs,hx,r2⟩:=Q9E S1 ra e4
  obtain ⟨ys,hy,r3⟩:=Q9E S1 rb e5
  refine ⟨v,u,xs,ys,rfl,hx,hy,fun ts qa hl nd nq fr fq=>?_⟩
  have hpl:(prs xs ys).length = min xs.length ys.length:=by unfold prs; rw [Q3,List.length_zip]
  have hmap:(ts.zip (prs xs ys)).map (·.1) = ts:=by
   rw [List.map_fst_zip]
   omega
  have fr2:∀ p ∈ ts.zip (prs xs ys),H1 p.1 = none:=fun p hp=>fr _ (List.of_mem_zip hp).1
  obtain ⟨S2,st2,hF⟩:=Q2X (ts.zip (prs xs ys)) S1 (by rw [hmap]; exact nd) fr2
  have fq2:Zj H1 (ts.zip (prs xs ys)) qa = none:=by
   rw [Z9 _ _ fun p hp (e:qa = p.1)=>nq (by rw [e]; exact (List.of_mem_zip hp).1)]
   exact fq
  have st3:=Xq S1 st1 st2
  rw [Q5C]
  refine k qa _ _ (Xq S2 st3 (Stp.laidO fq2)) (S2.laidO fq2) (Q6y st1 S1 fq) (S2.sub.free fq2) ⟨_,upd_same,?_⟩
  exact Q2S (r2.mono st2.f) (r3.mono st2.f) hl hF
 ·cases e3
end Z
namespace Z
open PySem PySem.Spec PyProof.Rows L2

end Z
namespace Z
open PySem PySem.Spec PyProof.Rows L2


end Z
namespace Z
open PySem PySem.Spec PyProof.Rows L2
theorem PlT.rp {K:PySem.W.Frag} {F:Hp} {v:V} {d:D} (h:PlT K F v d):Rp K F v d:=by
 obtain ⟨p,o,xs,ds,rfl,rfl,h1,_,h2⟩:=h
 exact .tup (.inl (.inr ⟨o,h1⟩)) h2
def QV (X:Cx) (e:Expr) (f:List Sl → Option (D × List Sl)) (M:List Nat):Prop :=
 ∃ t,PE X e t ∧ ∀ (Y:Fx) (F H:Hp) (δ:List Sl) (σ:L2.St) (A:Nat → List Addr),SR X.K Y F H δ σ A → ∀ (d:D) (δ':List Sl),f δ = some (d,δ') → ∀ Q:VK,
  (∀ v F' H',Stp A M F H F' H' → SR X.K Y F' H' δ' σ A → PlT X.K F' v d → Q v H') → t σ H Q
section
variable {X:Cx} {x:Str} {p pos:Pos} {e:Expr} {es:List Expr} {R M:List Nat}
theorem QV.ev {f:List Sl → Option (D × List Sl)} (h:QV X e f M):EV X e f [] M:=by
 obtain ⟨t,p,q⟩:=h
 exact ⟨t,p,fun Y F H δ σ A S d δ' e0 Q k=>q Y F H δ σ A S d δ' e0 Q fun v F1 H1 st S1 r=>k v F1 H1 st S1 (.inl r.rp)⟩
end

end Z
namespace Z
open PySem PySem.Spec PyProof.Rows L2


end Z
namespace PySem
open Sem (wp)
end PySem
namespace L2
open PySem PySem.Spec PyProof.Rows
end L2
namespace Z
open PySem PySem.Spec PyProof.Rows L2
variable {X:Cx}
end Z
namespace Z
open PySem PySem.Spec PyProof.Rows L2
variable {X:Cx} {pos:Pos}
def Q1A (T:Tt) (f:List Sl → Option (D × List Sl)):List Sl → Option Out:=fun δ=>(f δ).bind fun p=>match p.1 with
 | .list ds=>(Xj T ds p.2).map .nx
 | _=>none
theorem Q92 {io:Iom} {fr:Fr} {es:List Expr} {kk:Nat} {tpos:Pos} {e:Expr} {T:Tt} {f} {M:List Nat} {n:Nat} (hc:X.calm = true) (hT:∀ j ∈ tS T,io j = false) (h:EV X e f [] M) (hg:GsV X es T) (hn:(assignEach es X.env).length = n) (hlen:∀ ds δ δ',Xj T ds δ = some δ' → ds.length = n)
  (hst:(assignEach es X.env).findIdx? (·.1) = none:=by rfl) (hs:swapsWithSole [.Tuple es kk tpos] e pos.line X.env = pure false:=by rfl) (hw:swappedStores [.Tuple es kk tpos] e X.env = pure none:=by rfl)
  (h1:(assignEach [.Tuple es kk tpos] X.env).map (·.2) = [assign (.Tuple es kk tpos) X.env]:=by rfl):SV X io fr (.Assign [.Tuple es kk tpos] e pos) (Q1A T f):=by
 obtain ⟨t,p,q⟩:=h
 obtain ⟨g,pg,qg⟩:=hg
 refine ⟨_,ps_asg p (pg_unl hc pg hn hst) hs hw h1,fun Y F H δ σ A hY S o e D k=>?_⟩
 unfold Q1A at e
 cases e1:f δ with
 | none=>rw [e1] at e; cases e
 | some w =>
  obtain ⟨d,δ1⟩:=w
  rw [e1] at e
  simp only [Q1] at e
  split at e
  ·rename_i ds
   cases e2:Xj T ds δ1 with
   | none=>rw [e2] at e; cases e
   | some δ2 =>
    rw [e2] at e
    cases e
    refine q Y F H δ σ A S _ δ1 e1 _ fun v F1 H1 st S1 r=>?_
    obtain ⟨a,xs,rfl,h1,h2⟩:=r.listE S1
    refine ⟨a,xs,rfl,SqL.of (Q0k S1 _ _ h1),by rw [h2.length]; exact hlen _ _ _ e2,?_⟩
    exact qg Y F1 H1 δ1 σ A (fun j hj=>by rw [hY]; exact hT j hj) S1 xs _ δ2 h2 e2 _ fun σ' A' _ S2=>k _ F1 H1 A' st.f S2
  ·cases e
theorem Q6m {io:Iom} {fr:Fr} {es:List Expr} {kk:Nat} {tpos:Pos} {e:Expr} {T:Tt} {f} {M:List Nat} (hc:X.calm = true) (hT:∀ j ∈ tS T,io j = false) (h:EV X e f [] M) (hg:GsV X es T) (hT2:∀ i,T ≠ .nm i:=by intro _ z; cases z) (ok:tOk T = true:=by rfl) (hn:(assignEach es X.env).length = tN T:=by rfl)
  (hst:(assignEach es X.env).findIdx? (·.1) = none:=by rfl) (hs:swapsWithSole [.Tuple es kk tpos] e pos.line X.env = pure false:=by rfl) (hw:swappedStores [.Tuple es kk tpos] e X.env = pure none:=by rfl)
  (h1:(assignEach [.Tuple es kk tpos] X.env).map (·.2) = [assign (.Tuple es kk tpos) X.env]:=by rfl):SV X io fr (.Assign [.Tuple es kk tpos] e pos) (Q1A T f) :=
 Q92 hc hT h hg hn (fun ds δ δ' e=>Q4T T ds δ δ' hT2 ok e) hst hs hw h1
end Z
set_option exponentiation.threshold 4000
namespace Z
open PySem PySem.Spec PyProof.Rows L2
def Mk (m:Nat):Prop:=m = 7 ∨ m = 31 ∨ m = 127 ∨ m = 511 ∨ m = 2047
def orb (m:Nat):Nat → Nat → Nat → Nat
 | 0,_,acc=>acc
 | n + 1,x,acc=>orb m n ((x * 5 + 1) % (m + 1)) (acc ||| (1 <<< x))
theorem Q2T (m x:Nat):∀ k,lcgI m ((x * 5 + 1) % (m + 1)) k = lcgI m x (k + 1)
 | 0=>rfl
 | k + 1=>by
  show (lcgI m ((x * 5 + 1) % (m + 1)) k * 5 + 1) % (m + 1) = (lcgI m x (k + 1) * 5 + 1) % (m + 1)
  rw [Q2T m x k]
theorem Q5o (m j:Nat):∀ (n x acc:Nat),(orb m n x acc).testBit j = true → acc.testBit j = true ∨ ∃ k,k < n ∧ lcgI m x k = j
 | 0,_,_,h=>.inl h
 | n + 1,x,acc,h=>by
  rcases Q5o m j n _ _ h with q | ⟨k,hk,e⟩
  ·rw [Nat.testBit_or,J3] at q
   rcases q with q | q
   ·exact .inl q
   ·rw [Nat.one_shiftLeft,Nat.testBit_two_pow] at q
    exact .inr ⟨0,Nat.succ_pos _,of_decide_eq_true q⟩
  ·rw [Q2T] at e
   exact .inr ⟨k + 1,Nat.succ_lt_succ hk,e⟩
theorem QbM:(orb 7 8 0 0 == 2 ^ 8 - 1) = true:=by decide +kernel
theorem QaT:(orb 31 32 0 0 == 2 ^ 32 - 1) = true:=by decide +kernel
theorem Q9m:(orb 127 128 0 0 == 2 ^ 128 - 1) = true:=by decide +kernel
theorem Q9e:(orb 511 512 0 0 == 2 ^ 512 - 1) = true:=by decide +kernel
theorem Q7o:(orb 2047 2048 0 0 == 2 ^ 2048 - 1) = true:=by decide +kernel
theorem Z5 {m j:Nat} (e:(orb m (m + 1) 0 0 == 2 ^ (m + 1) - 1) = true) (hj:j ≤ m):∃ k,k ≤ m ∧ lcgN m k = j:=by
 have e':=eq_of_beq e
 have b:(orb m (m + 1) 0 0).testBit j = true:=by
  rw [e',Nat.testBit_two_pow_sub_one]
  exact decide_eq_true (Nat.lt_succ_of_le hj)
 rcases Q5o m j _ _ _ b with q | ⟨k,hk,q⟩
 ·simp at q
 ·refine ⟨k,Nat.le_of_lt_succ hk,?_⟩
  have:=lcgN_add m 0 k
  rw [Nat.zero_add] at this
  rw [← this]
  exact q
theorem Q54 {m j:Nat} (hm:Mk m) (hj:j ≤ m):∃ k,k ≤ m ∧ lcgN m k = j:=by
 rcases hm with e | e | e | e | e
 ·subst e; exact Z5 QbM hj
 ·subst e; exact Z5 QaT hj
 ·subst e; exact Z5 Q9m hj
 ·subst e; exact Z5 Q9e hj
 ·subst e; exact Z5 Q7o hj
theorem Q8G {m:Nat} (hm:Mk m):lcgN m (m + 1) = 0:=by
 rcases hm with e | e | e | e | e
 ·subst e; decide +kernel
 ·subst e; decide +kernel
 ·subst e; decide +kernel
 ·subst e; decide +kernel
 ·subst e; decide +kernel
theorem Q3U {m:Nat} (hm:Mk m):∀ k,lcgN m (m + 1 + k) = lcgN m k
 | 0=>Q8G hm
 | k + 1=>by
  have ih:=Q3U hm k
  show (lcgN m (m + 1 + k) * 5 + 1) % (m + 1) = _
  rw [ih]
  rfl
theorem Q5D {m i j:Nat} (hm:Mk m) (hi:i ≤ m) (hj:j ≤ m):∃ k,k ≤ m ∧ lcgI m i k = j:=by
 obtain ⟨p,hp,ep⟩:=Q54 hm hi
 obtain ⟨q,hq,eq⟩:=Q54 hm hj
 subst ep
 by_cases c:p ≤ q
 ·refine ⟨q - p,by omega,?_⟩
  rw [lcgN_add,← eq]
  congr 1
  omega
 ·refine ⟨q + (m + 1) - p,by omega,?_⟩
  rw [lcgN_add,← eq,← Q3U hm q]
  congr 1
  omega
theorem Q4y {m:Nat} (hm:Mk m) (h:Int) {j:Nat} (hj:j ≤ m):∃ n,n ≤ m + 12 ∧ runI m (SetTable.bits h) n = j:=by
 obtain ⟨k,hk,e⟩:=Q5D hm (runI_le m (SetTable.bits h) 12) hj
 refine ⟨12 + k,by omega,?_⟩
 rw [runI_tail (bits_lt h)]
 exact e
theorem Q5J {m:Nat} (hm:Mk m) (h:Int) {j:Nat} (hj:j ≤ m):∃ k,k < 10 * SetTable.turns m ∧ way m h k = j:=by
 obtain ⟨n,hn,e⟩:=Q4y hm h hj
 obtain ⟨k,hk,e2⟩:=run_nth m (SetTable.bits h) n
 have ht:n < SetTable.turns m:=by unfold SetTable.turns; omega
 refine ⟨k,by omega,?_⟩
 show (nth m _ k).j = j
 rw [e2]
 exact e
structure Tab (t:SetTable) (hs:List Int):Prop where
 ord:Ris t.place.toList
 nod:t.dummies = #[]
 siz:t.place.size = hs.length
 okm:Mk t.mask
 low:∀ x ∈ t.place.toList,x ≤ t.mask
 met:∀ (i:Nat) (h:Int) (j:Nat),hs[i]? = some h → t.place.toList[i]? = some j → ∃ k,way t.mask h k = j ∧ ∀ c,c < k → way t.mask h c ∈ t.place.toList
theorem Tab.len {t:SetTable} {hs:List Int} (T:Tab t hs):t.place.toList.length = hs.length:=T.siz
theorem Mk.le {m:Nat} (h:Mk m):m ≤ 2047:=by
 rcases h with e | e | e | e | e <;> subst e <;> decide
theorem Tab.gap {t:SetTable} {hs:List Int} (T:Tab t hs) (hl:hs.length ≤ t.mask) (h:Int):∃ G,G < 10 * SetTable.turns t.mask ∧ way t.mask h G ∉ t.place.toList ∧ ∀ c,c < G → way t.mask h c ∈ t.place.toList:=by
 obtain ⟨j,hj,out⟩:=st_missing t.place.toList (t.mask + 1) (by rw [T.len]; omega)
 obtain ⟨k,hk,e⟩:=Q5J T.okm h (Nat.le_of_lt_succ hj)
 subst e
 obtain ⟨G,g1,g2,g3⟩:=st_least (p:=fun c=>way t.mask h c ∉ t.place.toList) k out
 exact ⟨G,by omega,g2,fun c hc=>Decidable.byContradiction fun z=>g3 c hc z⟩
end Z
namespace Z
open PySem PySem.Spec PyProof.Rows L2
section
variable {P:Program} {w:World} {A:Around} {E:Value → Shared → Prop} {s:Shared}
def Q2V (P:Program) (w:World) (n:Nat) (s:Shared) (v:Value):Prop:=∀ (A:Around) (E:Value → Shared → Prop) (Q:Bool → Shared → Prop),Q false s → wpAny (model P w) A (ofAClassStatement n v) Q E s
def Q01 (P:Program) (w:World) (n:Nat) (s:Shared) (v:Value):Prop:=∀ (A:Around) (E:Value → Shared → Prop) (Q:Bool → Shared → Prop),(∀ b,Q b s) → wpAny (model P w) A (hashByValue n v) Q E s
theorem Q2V.tup {n:Nat} {a:Addr} {o:Obj} {vs:Array Value} {m:Nat} (ho:s.heap.get? a = some o) (hc:o.cls = .type "tuple") (hd:o.data = .seq vs m) (hv:∀ v ∈ vs.toList,Q2V P w n s v):Q2V P w (n + 1) s (.ref a):=fun A E Q q=>by
 have ty:s.TypeIs (.ref a) "tuple":=⟨o,ho,hc⟩
 unfold ofAClassStatement
 refine wpAny_bind (wpAny_typeOf ty ?_)
 dsimp only
 have tt:(("tuple":String) == "tuple") = true:=by decide
 simp only [tt,if_true,Bool.not_true,J1,if_false]
 try refine wpAny_bind (wpAny_pure ?_)
 try simp only [Bool.not_true,J1,if_false]
 show wpAny (model P w) A (seqItems? (.ref a) >>= _) Q E s
 refine wpAny_bind (wpAny_seqItems ho hd ?_)
 dsimp only
 refine wpAny_bind ?_
 show wpAny (model P w) A (forIn vs _ _) _ E s
 rw [← Array.forIn_toList]
 refine wpAny_forIn_list _ (fun l b s'=>s' = s ∧ b.1 = none ∧ ∀ v ∈ l,Q2V P w n s v) _ (fun v l b s' h=>?_) (fun b s' h=>?_) _ _ ⟨rfl,rfl,hv⟩
 ·obtain ⟨rfl,h1,h2⟩:=h
  refine wpAny_bind (h2 v Qe A E _ ?_)
  simp only [J1,if_false]
  exact wpAny_pure ⟨rfl,rfl,fun u hu=>h2 u (Qb _ hu)⟩
 ·obtain ⟨b1,b2⟩:=b
  obtain ⟨rfl,h1,_⟩:=h
  cases h1
  exact wpAny_pure q
theorem Q01.tup {n:Nat} {a:Addr} {o:Obj} {vs:Array Value} {m:Nat} (ho:s.heap.get? a = some o) (hc:o.cls = .type "tuple") (hd:o.data = .seq vs m) (hv:∀ v ∈ vs.toList,Q01 P w n s v):Q01 P w (n + 1) s (.ref a):=fun A E Q q=>by
 have ty:s.TypeIs (.ref a) "tuple":=⟨o,ho,hc⟩
 unfold hashByValue
 refine wpAny_bind (wpAny_specialOf ty F.slot_tuple_hash.lookup ?_)
 show wpAny (model P w) A (seqItems? (.ref a) >>= _) Q E s
 refine wpAny_bind (wpAny_seqItems ho hd ?_)
 refine wpAny_bind ?_
 show wpAny (model P w) A (forIn vs _ _) _ E s
 rw [← Array.forIn_toList]
 refine wpAny_forIn_list _ (fun l b s'=>s' = s ∧ b.1 = none ∧ ∀ v ∈ l,Q01 P w n s v) _ (fun v l b s' h=>?_) (fun b s' h=>?_) _ _ ⟨rfl,rfl,hv⟩
 ·obtain ⟨rfl,h1,h2⟩:=h
  refine wpAny_bind (h2 v Qe A E _ fun r=>?_)
  cases r
  ·simp only [Bool.not_false,if_true]
   exact wpAny_pure (wpAny_pure (q _))
  ·simp only [Bool.not_true,J1,if_false]
   exact wpAny_pure ⟨rfl,rfl,fun u hu=>h2 u (Qb _ hu)⟩
 ·obtain ⟨b1,b2⟩:=b
  obtain ⟨rfl,h1,_⟩:=h
  cases h1
  exact wpAny_pure (q _)
mutual
theorem Q5G:∀ (k:NestedKey) (v:Value) (n:Nat) (s:Shared),NestedIs s.heap k v → k.depth ≤ n → Q2V P w n s v
 | .none,_,n,_,.none,_=>fun _ _ _ q=>by cases n <;> exact wpAny_pure q
 | .num _,_,n,_,.bool _,_=>fun _ _ _ q=>by cases n <;> exact wpAny_pure q
 | .num _,_,n,_,.int _ _,_=>fun _ _ _ q=>by cases n <;> exact wpAny_pure q
 | .text _,_,n,_,.text _ _,_=>fun _ _ _ q=>by cases n <;> exact wpAny_pure q
 | .tup ks,_,0,_,.tup _ _ _ _,hn=>absurd hn (by simp [NestedKey.depth])
 | .tup ks,_,n + 1,s,.tup ho hc hd hk,hn=>.tup ho hc hd (Q2g ks _ n s hk (by simp only [NestedKey.depth] at hn; omega))
theorem Q2g:∀ (ks:List NestedKey) (vs:List Value) (n:Nat) (s:Shared),NestedAll s.heap ks vs → NestedKey.depthAll ks ≤ n → ∀ v ∈ vs,Q2V P w n s v
 | [],_,_,_,.nil,_,v,hv=>by cases hv
 | k :: ks,_,n,s,.cons x y,hn,v,hv=>by
  simp only [NestedKey.depthAll] at hn
  rcases Ql.mp hv with e | e
  ·subst e
   exact Q5G k _ n s x (by omega)
  ·exact Q2g ks _ n s y (by omega) v e
end
mutual
theorem Q4c:∀ (k:NestedKey) (v:Value) (n:Nat) (s:Shared),NestedIs s.heap k v → k.depth ≤ n → Q01 P w n s v
 | .none,_,n,_,.none,_=>fun _ _ _ q=>by cases n <;> exact wpAny_pure (q _)
 | .num _,_,n,_,.bool _,_=>fun _ _ _ q=>by cases n <;> exact wpAny_pure (q _)
 | .num _,_,n,_,.int _ _,_=>fun _ _ _ q=>by cases n <;> exact wpAny_pure (q _)
 | .text _,_,n,_,.text _ _,_=>fun _ _ _ q=>by cases n <;> exact wpAny_pure (q _)
 | .tup ks,_,0,_,.tup _ _ _ _,hn=>absurd hn (by simp [NestedKey.depth])
 | .tup ks,_,n + 1,s,.tup ho hc hd hk,hn=>.tup ho hc hd (Q0Z ks _ n s hk (by simp only [NestedKey.depth] at hn; omega))
theorem Q0Z:∀ (ks:List NestedKey) (vs:List Value) (n:Nat) (s:Shared),NestedAll s.heap ks vs → NestedKey.depthAll ks ≤ n → ∀ v ∈ vs,Q01 P w n s v
 | [],_,_,_,.nil,_,v,hv=>by cases hv
 | k :: ks,_,n,s,.cons x y,hn,v,hv=>by
  simp only [NestedKey.depthAll] at hn
  rcases Ql.mp hv with e | e
  ·subst e
   exact Q4c k _ n s x (by omega)
  ·exact Q0Z ks _ n s y (by omega) v e
end
abbrev Kin (P:Program) (w:World) (h:Heap) (k:NestedKey) (b:Addr):Prop:=(nestedKind P w).is h k b
abbrev kh (w:World) (k:NestedKey):Int:=k.hash w
theorem Kin.keep {h h':Heap} {k:NestedKey} {b:Addr} (x:Kin P w h k b) (kp:∀ c o,h.get? c = some o → h'.get? c = some o):Kin P w h' k b:=⟨NestedIs.at (fun c o _ _ e _=>kp c o e) k _ x.1,x.2⟩
theorem Kin.same {h h':Heap} {k:NestedKey} {a b:Addr} {o:Obj} {es:Array (Int × Value)} {ep:Nat} {t:SetTable} (x:Kin P w h k b) (ho:h.get? a = some o) (hd:o.data = .set es ep t) (sb:Heap.SameBut a h h'):Kin P w h' k b :=
 ⟨NestedIs.at (fun c o' vs n e1 e2=>(sb.2 c fun z=>by subst z; rw [ho] at e1; cases e1; rw [hd] at e2; cases e2).trans e1) k _ x.1,x.2⟩
def rowK (w:World) (L:List (Addr × NestedKey)):List (Int × Value):=L.map fun p=>(kh w p.2,Value.ref p.1)
abbrev few1:Nat:=1200
structure Q6w (P:Program) (w:World) (h:Heap) (a:Addr) (L:List (Addr × NestedKey)) (es:Array (Int × Value)) (ep:Nat) (t:SetTable):Prop where
 ob:∃ o,h.get? a = some o ∧ o.ExactSet ∧ o.data = .set es ep t
 row:es.toList = rowK w L
 tab:Tab t (L.map fun p=>kh w p.2)
 one:(L.map (·.2)).Nodup
 key:∀ p ∈ L,Kin P w h p.2 p.1
 led:w.params.followText "set-order" = true ∨ t.led = true
 gap:L.length * 5 < t.mask * 3
 few:L.length < few1
variable {a:Addr} {L:List (Addr × NestedKey)} {es:Array (Int × Value)} {ep:Nat} {t:SetTable}
end
end Z
namespace Z
open PySem PySem.Spec PyProof.Rows L2
section
variable {P:Program} {w:World} {A:Around} {E:Value → Shared → Prop} {s:Shared}
variable {a:Addr} {L:List (Addr × NestedKey)} {es:Array (Int × Value)} {ep:Nat} {t:SetTable}
structure Qav (ks:List (Addr × NestedKey)) (i:Nat) (L:List (Addr × NestedKey)):Prop where
 from_:∀ p ∈ L,p ∈ ks.take i
 all_:∀ p ∈ ks.take i,p.2 ∈ L.map (·.2)
 len_:L.length ≤ i
theorem Qav.next {ks L L':List (Addr × NestedKey)} {i:Nat} {p:Addr × NestedKey} (g:Qav ks i L) (e:ks[i]? = some p) (h1:p.2 ∈ L.map (·.2) → L' = L) (h2:p.2 ∉ L.map (·.2) → L'.Perm (p :: L)):Qav ks (i + 1) L':=by
 have tk:=take_next e
 by_cases c:p.2 ∈ L.map (·.2)
 ·rw [h1 c]
  refine ⟨fun x hx=>by rw [tk]; exact Q7 _ (g.from_ x hx),fun x hx=>?_,Nat.le_succ_of_le g.len_⟩
  rw [tk] at hx
  rcases Qj.mp hx with z | z
  ·exact g.all_ x z
  ·rw [Qt] at z
   subst z
   exact c
 ·have pm:=h2 c
  refine ⟨fun x hx=>?_,fun x hx=>?_,by rw [pm.length_eq,Qu]; have:=g.len_; omega⟩
  ·rw [tk]
   rcases Ql.mp (pm.mem_iff.mp hx) with z | z
   ·subst z
    exact Q8 _ (Qt.mpr rfl)
   ·exact Q7 _ (g.from_ x z)
  ·rw [(pm.map (·.2)).mem_iff,Qq]
   rw [tk] at hx
   rcases Qj.mp hx with z | z
   ·exact Qb _ (g.all_ x z)
   ·rw [Qt] at z
    subst z
    exact Qe
theorem Q6w.keep {h h':Heap} (R:Q6w P w h a L es ep t) (ha:∀ o,h.get? a = some o → h'.get? a = some o) (hk:∀ p ∈ L,Kin P w h' p.2 p.1):Q6w P w h' a L es ep t:=by
 obtain ⟨⟨o,ho,z⟩,h2,h3,h4,_,h6,h7,h8⟩:=R
 exact ⟨⟨o,ha o ho,z⟩,h2,h3,h4,hk,h6,h7,h8⟩
end
end Z
namespace Z
open PySem PySem.Spec PyProof.Rows L2
mutual
def Q07:D → Option NestedKey
 | .none=>some .none
 | .int i=>some (.num i)
 | .str x=>some (.text x)
 | .tuple ds=>(K9 ds).map .tup
 | _=>none
def K9:List D → Option (List NestedKey)
 | []=>some []
 | d :: r=>(Q07 d).bind fun k=>(K9 r).map fun ks=>k :: ks
end
mutual
theorem Q5M:∀ (d:D) (k:NestedKey),Q07 d = some k → k.data = d
 | .none,_,h=>by cases h; rfl
 | .int i,_,h=>by cases h; rfl
 | .str i,_,h=>by cases h; rfl
 | .bool _,_,h=>by simp [Q07] at h
 | .list _,_,h=>by simp [Q07] at h
 | .dict _,_,h=>by simp [Q07] at h
 | .tuple ds,k,h=>by
  rw [Q07] at h
  cases e:K9 ds with
  | none=>rw [e] at h; cases h
  | some ks =>
   rw [e] at h
   cases h
   rw [NestedKey.data,Q1J ds ks e]
theorem Q1J:∀ (ds:List D) (ks:List NestedKey),K9 ds = some ks → NestedKey.datas ks = ds
 | [],_,h=>by cases h; rfl
 | d :: r,_,h=>by
  rw [K9] at h
  cases e:Q07 d with
  | none=>rw [e] at h; cases h
  | some k =>
   rw [e] at h
   cases e2:K9 r with
   | none=>rw [e2] at h; cases h
   | some ks =>
    rw [e2] at h
    cases h
    rw [NestedKey.datas,Q5M d k e,Q1J r ks e2]
end
mutual
theorem Q60 {h:Heap}:∀ (d:D) (k:NestedKey) (v:Value) (as:List Addr),Q07 d = some k → Reads h v d as → NestedIs h k v ∧ as = []
 | .none,_,_,_,e,r=>by cases e; cases r; exact ⟨.none,rfl⟩
 | .int i,_,_,_,e,r=>by cases e; cases r; exact ⟨.int _ _,rfl⟩
 | .str i,_,_,_,e,r=>by cases e; cases r; exact ⟨.text _ _,rfl⟩
 | .bool _,_,_,_,e,r=>by simp [Q07] at e
 | .list _,_,_,_,e,r=>by simp [Q07] at e
 | .dict _,_,_,_,e,r=>by simp [Q07] at e
 | .tuple ds,k,v,as,e,r=>by
  rw [Q07] at e
  cases e1:K9 ds with
  | none=>rw [e1] at e; cases e
  | some ks =>
   rw [e1] at e
   cases e
   cases r with
   | tuple h1 h2 h3 h4 =>
    obtain ⟨q1,q2⟩:=Q2t ds ks _ as e1 h4
    exact ⟨.tup h1 h2 h3 q1,q2⟩
theorem Q2t {h:Heap}:∀ (ds:List D) (ks:List NestedKey) (vs:List Value) (as:List Addr),K9 ds = some ks → ReadsAll h vs ds as → NestedAll h ks vs ∧ as = []
 | [],_,_,_,e,r=>by cases e; cases r; exact ⟨.nil,rfl⟩
 | d :: ds,ks,vs,as,e,r=>by
  rw [K9] at e
  cases e1:Q07 d with
  | none=>rw [e1] at e; cases e
  | some k =>
   rw [e1] at e
   cases e2:K9 ds with
   | none=>rw [e2] at e; cases e
   | some ks' =>
    rw [e2] at e
    cases e
    cases r with
    | cons r1 r2 =>
     obtain ⟨q1,q2⟩:=Q60 d k _ _ e1 r1
     obtain ⟨q3,q4⟩:=Q2t ds ks' _ _ e2 r2
     subst q2
     subst q4
     exact ⟨.cons q1 q3,rfl⟩
end
theorem Q8x (l:List (Int ⊕ List Nat)):lexLt itemOrd l l = false:=lex_irrefl (O:=itemOrd) l
mutual
theorem Q2Z:∀ (x y:D),PySem.W.alike x y = true → PySem.W.alike y x = true
 | .none,y,h=>by cases y <;> simp_all [PySem.W.alike]
 | .bool _,y,h=>by cases y <;> simp_all [PySem.W.alike]
 | .int _,y,h=>by cases y <;> simp_all [PySem.W.alike]
 | .str _,y,h=>by cases y <;> simp_all [PySem.W.alike]
 | .dict _,y,h=>by cases y <;> simp_all [PySem.W.alike]
 | .list xs,y,h=>by
  cases y with
  | list ys=>rw [PySem.W.alike] at h ⊢; exact Q0j xs ys h
  | _=>simp [PySem.W.alike] at h
 | .tuple xs,y,h=>by
  cases y with
  | tuple ys=>rw [PySem.W.alike] at h ⊢; exact Q0j xs ys h
  | _=>simp [PySem.W.alike] at h
theorem Q0j:∀ (xs ys:List D),PySem.W.alikeAll xs ys = true → PySem.W.alikeAll ys xs = true
 | [],[],_=>by simp [PySem.W.alikeAll]
 | [],_ :: _,_=>by simp [PySem.W.alikeAll]
 | _ :: _,[],_=>by simp [PySem.W.alikeAll]
 | x :: xs,y :: ys,h=>by
  rw [PySem.W.alikeAll,Q4] at h ⊢
  exact ⟨Q2Z x y h.1,Q0j xs ys h.2⟩
end
theorem Q5U {x y:D} (ha:PySem.W.alike x y = true) {l m:List (Int ⊕ List Nat)} (e:PySem.W.keyToks x ++ l = PySem.W.keyToks y ++ m):PySem.W.keyToks x = PySem.W.keyToks y:=by
 have hb:=Q2Z x y ha
 cases c:Jp x y with
 | true=>exact (PySem.W.toks_eqv x y ha).1 c
 | false =>
  cases c2:Jp y x with
  | true=>exact ((PySem.W.toks_eqv y x hb).1 c2).symm
  | false =>
   have a:=(PySem.W.toks_eqv x y ha).2 c l m
   have b:=(PySem.W.toks_eqv y x hb).2 c2 m l
   rw [e,Q8x] at a b
   exact lex_total (O:=itemOrd) _ _ a.symm b.symm
mutual
theorem Q70:∀ (x y:D),PySem.W.alike x y = true → PySem.W.keyToks x = PySem.W.keyToks y → x = y
 | .none,y,h,e=>by cases y <;> simp_all [PySem.W.alike]
 | .bool a,y,h,e=>by
  cases y with
  | bool b=>cases a <;> cases b <;> simp_all [PySem.W.keyToks]
  | _=>simp [PySem.W.alike] at h
 | .int a,y,h,e=>by
  cases y with
  | int b=>simp [PySem.W.keyToks] at e; rw [e]
  | _=>simp [PySem.W.alike] at h
 | .str a,y,h,e=>by
  cases y with
  | str b =>
   simp only [PySem.W.keyToks,List.cons.injEq,Sum.inr.injEq,and_true] at e
   rw [PySem.W.str_of_cps e]
  | _=>simp [PySem.W.alike] at h
 | .dict _,y,h,e=>by simp [PySem.W.alike] at h
 | .list xs,y,h,e=>by
  cases y with
  | list ys =>
   rw [PySem.W.alike] at h
   rw [PySem.W.keyToks,PySem.W.keyToks] at e
   rw [Q1m xs ys h e]
  | _=>simp [PySem.W.alike] at h
 | .tuple xs,y,h,e=>by
  cases y with
  | tuple ys =>
   rw [PySem.W.alike] at h
   rw [PySem.W.keyToks,PySem.W.keyToks] at e
   rw [Q1m xs ys h e]
  | _=>simp [PySem.W.alike] at h
theorem Q1m:∀ (xs ys:List D),PySem.W.alikeAll xs ys = true → PySem.W.keyToksAll xs = PySem.W.keyToksAll ys → xs = ys
 | [],[],_,_=>rfl
 | [],y :: ys,_,e=>by simp [PySem.W.keyToksAll] at e
 | x :: xs,[],_,e=>by simp [PySem.W.keyToksAll] at e
 | x :: xs,y :: ys,h,e=>by
  rw [PySem.W.alikeAll,Q4] at h
  rw [PySem.W.keyToksAll,PySem.W.keyToksAll] at e
  have e1:PySem.W.keyToks x ++ PySem.W.keyToksAll xs = PySem.W.keyToks y ++ PySem.W.keyToksAll ys:=(List.cons.inj e).2
  have e2:=Q5U h.1 e1
  rw [e2] at e1
  rw [Q70 x y h.1 e2,Q1m xs ys h.2 (List.append_cancel_left e1)]
end
section
variable {X:Cx}
def okB (ds:List D):Bool:=Qay ds && ((ds.all fun d=>match d with | .tuple (_ :: _)=>true | _=>false) || (ds.all fun d=>match d with | .int _=>true | _=>false)) && ds.all (fun d=>decide (d.depth ≤ 8)) && (K9 ds).isSome
end
end Z
namespace Z
open PySem PySem.Spec PyProof.Rows L2

end Z
namespace Z
open PySem PySem.Spec PyProof.Rows L2

end Z
namespace Z
open PySem PySem.Spec PyProof.Rows L2
mutual
theorem Q5N:∀ k:NestedKey,Q07 k.data = some k
 | .none=>rfl
 | .num _=>rfl
 | .text _=>rfl
 | .tup ks=>by rw [NestedKey.data,Q07,Q1E ks]; rfl
theorem Q1E:∀ ks:List NestedKey,K9 (NestedKey.datas ks) = some ks
 | []=>rfl
 | k :: ks=>by rw [NestedKey.datas,K9,Q5N k,Q1E ks]; rfl
end
mutual
theorem Q4x:∀ k:NestedKey,k.data.depth = k.depth
 | .none=>rfl
 | .num _=>rfl
 | .text _=>rfl
 | .tup ks=>by
  rw [NestedKey.data,PyData.depth,NestedKey.depth,Q1z ks]
theorem Q1z:∀ ks:List NestedKey,Jk (NestedKey.datas ks) = NestedKey.depthAll ks
 | []=>rfl
 | k :: ks=>by
  rw [NestedKey.datas,Jk,NestedKey.depthAll,Q4x k,Q1z ks]
end

end Z
namespace Z
open PySem PySem.Spec PyProof.Rows L2

section
variable {X:Cx}

end
end Z
namespace Z
open PySem PySem.Spec PyProof.Rows L2

end Z
namespace Z
open PySem PySem.Spec PyProof.Rows L2


end Z
namespace Z
open PySem PySem.Spec PyProof.Rows L2

end Z
namespace Z
open PySem PySem.Spec PyProof.Rows L2

end Z
namespace Z
open PySem PySem.Spec PyProof.Rows L2


end Z
namespace Z
open PySem PySem.Spec PyProof.Rows L2


end Z
namespace Z
open PySem PySem.Spec PyProof.Rows L2

end Z
namespace Z
open PySem PySem.Spec PyProof.Rows L2


end Z
namespace Z
open PySem PySem.Spec PyProof.Rows L2
variable {X:Cx}
end Z
namespace PySem

end PySem
namespace PySem

end PySem
namespace Z
open PySem PySem.Spec PyProof.Rows L2

end Z
namespace Z
open PySem PySem.Spec PyProof.Rows L2

end Z
namespace Z
open PySem PySem.Spec PyProof.Rows L2
section
variable {X:Cx} {pins:List (Addr × Obj)} {σ:L2.St} {H G:Hp} {s:Shared}
mutual
theorem Rp.readsM (I:Inv X pins σ H s) (g:Same G H) (hm:H sysModules = none):∀ (d:D) (v:V) (u:Value),Rp X.K G v d → RelV v u → ∃ as,Reads s.heap u d as ∧ sysModules ∉ as
 | .none,_,_,h,r=>by
  cases h
  cases r
  exact ⟨_,Reads.none,Ji⟩
 | .bool b,_,_,h,r=>by
  cases h
  cases r
  exact ⟨_,Reads.bool b,Ji⟩
 | .int i,_,_,h,r=>by
  cases h
  obtain ⟨t,rfl⟩:=r
  exact ⟨_,Reads.int i t,Ji⟩
 | .str x,_,_,h,r=>by
  cases h
  obtain ⟨t,rfl⟩:=r
  exact ⟨_,Reads.str x t,Ji⟩
 | .list ds,_,_,h,r=>by
  cases h with
  | lst hs ha =>
   rename_i p xs
   cases r
   obtain ⟨its,rv,⟨o,n,ho,hc,_,hd⟩,_⟩:=I.list (SqL.of (g _ _ hs))
   obtain ⟨as,hr,hn⟩:=Rp.readsAllM I g hm ds _ its ha rv
   refine ⟨_,Reads.list ho hc hd hr,fun hz=>?_⟩
   rcases Ql.mp hz with hz | hz
   ·have:=g _ _ hs
    rw [← hz,hm] at this
    cases this
   ·exact hn hz
 | .tuple ds,_,_,h,r=>by
  cases h with
  | tup hs ha =>
   cases r
   obtain ⟨its,rv,⟨o,ho,hc,n,hd⟩,_⟩:=I.tuple (Same.sqt g hs)
   obtain ⟨as,hr,hn⟩:=Rp.readsAllM I g hm ds _ its ha rv
   exact ⟨_,Reads.tuple ho hc hd hr,hn⟩
 | .dict ds,_,_,h,r=>by
  cases h with
  | dic hs ha =>
   cases r
   obtain ⟨_,_,hsm,vs,rel,o,es,ep,ho,hx,hdat,_,hp,_⟩:=I.hok _ _ (g _ _ hs)
   obtain ⟨bs,h1,h2,hn⟩:=Rp.readsKvM I g hm ds _ vs es.toList ha rel hp
   refine ⟨_,Reads.dict ho hx.1 hdat h1 h2,fun hz=>?_⟩
   rcases Ql.mp hz with hz | hz
   ·have:=g _ _ hs
    rw [← hz,hm] at this
    cases this
   ·exact hn hz
theorem Rp.readsAllM (I:Inv X pins σ H s) (g:Same G H) (hm:H sysModules = none):∀ (ds:List D) (vs:List V) (us:List Value),Rps X.K G vs ds → Vals vs us → ∃ as,ReadsAll s.heap us ds as ∧ sysModules ∉ as
 | [],_,_,h,r=>by
  cases h
  cases r
  exact ⟨_,ReadsAll.nil,Ji⟩
 | d :: ds,_,_,h,r=>by
  cases h with
  | cons h1 h2 =>
   cases r with
   | cons r1 r2 =>
    obtain ⟨as,q1,m1⟩:=Rp.readsM I g hm d _ _ h1 r1
    obtain ⟨bs,q2,m2⟩:=Rp.readsAllM I g hm ds _ _ h2 r2
    exact ⟨_,ReadsAll.cons q1 q2,fun hz=>(Qj.mp hz).elim m1 m2⟩
theorem Rp.readsKvM (I:Inv X pins σ H s) (g:Same G H) (hm:H sysModules = none):∀ (ds:List (D × D)) (kvs:List (Key × V)) (vs:List (Key × Value)) (es:List DictEntry),RpK X.K G kvs ds → KV kvs vs → Pairs (mixKind X.prog X.w) es vs →
  ∃ bs,ReadsAll s.heap (es.map (·.key)) (ds.map (·.1)) [] ∧ ReadsAll s.heap (es.map (·.val)) (ds.map (·.2)) bs ∧ sysModules ∉ bs
 | [],_,_,_,h,r,p=>by
  cases h
  cases r
  cases p
  exact ⟨_,ReadsAll.nil,ReadsAll.nil,Ji⟩
 | (dk,dv) :: ds,_,_,_,h,r,p=>by
  cases h with
  | cons h1 h2 =>
   cases r with
   | cons r1 r2 =>
    rename_i q vs'
    obtain ⟨k',u⟩:=q
    obtain ⟨e1,r1⟩:=r1
    simp only at e1
    subst e1
    cases p with
    | cons p1 p2 p3 =>
     obtain ⟨as,q1,m1⟩:=Rp.readsM I g hm dv _ _ h1 r1
     obtain ⟨bs,q2,q3,m3⟩:=Rp.readsKvM I g hm ds _ _ _ h2 r2 p3
     refine ⟨as ++ bs,?_,?_,fun hz=>(Qj.mp hz).elim m1 m3⟩
     ·exact ReadsAll.cons (as:=[]) (bs:=[]) (Q2o p1) q2
     ·rw [Qq,p2]
      exact ReadsAll.cons q1 q3
end
end

end Z
namespace Z
open PySem PySem.Spec PyProof.Rows L2


end Z
namespace Z
open PySem PySem.Spec PyProof.Rows L2

end Z
namespace Z
open PySem PySem.Spec PyProof.Rows L2

end Z
namespace Z
open PySem PySem.Spec PyProof.Rows L2
def eLi {α:Type} (e:α → D) (xs:List α):D:=.list (xs.map e)
def eTu {α:Type} (e:α → D) (xs:List α):D:=.tuple (xs.map e)
def eP2 {α β:Type} (a:α → D) (b:β → D) (p:α × β):D:=.tuple [a p.1,b p.2]
def eP3 {α β γ:Type} (a:α → D) (b:β → D) (c:γ → D) (p:α × β × γ):D:=.tuple [a p.1,b p.2.1,c p.2.2]
structure Dk where
 cs:List Int
 m:Int
 n:Int
def sDk (k:Dk):Sl:=.dk k.cs k.m k.n
def Q5R {α β:Type} (v:α) (k:α → Option β):Option β:=k v
abbrev Fe:=List Sl → Option (D × List Sl)
abbrev Fb:=List Sl → Option (Bool × List Sl)
abbrev Fs:=List Sl → Option (List D × List Sl)
abbrev Fk:=List Sl → Option (List Ar × List Sl)
abbrev Fo:=List Sl → Option (Option Int × List Sl)
def VP (f:Fe) (δ:List Sl) (d:D):Prop:=f δ = some (d,δ)
def VN {α:Type} (f:Fe) (δ:List Sl) (o:Option α) (r:α → D × List Sl):Prop:=∀ a,o = some a → f δ = some (r a)
def AP (f:Fs) (δ:List Sl) (d:List D):Prop:=f δ = some (d,δ)
def AN {α:Type} (f:Fs) (δ:List Sl) (o:Option α) (r:α → List D × List Sl):Prop:=∀ a,o = some a → f δ = some (r a)
def TP (f:Fb) (δ:List Sl) (b:Bool):Prop:=f δ = some (b,δ)
def TN {α:Type} (f:Fb) (δ:List Sl) (o:Option α) (r:α → Bool × List Sl):Prop:=∀ a,o = some a → f δ = some (r a)
def KP (f:Fk) (δ:List Sl) (d:List Ar):Prop:=f δ = some (d,δ)
def KN {α:Type} (f:Fk) (δ:List Sl) (o:Option α) (r:α → List Ar × List Sl):Prop:=∀ a,o = some a → f δ = some (r a)
def OP (f:Fo) (δ:List Sl) (d:Option Int):Prop:=f δ = some (d,δ)
theorem Xw {α β:Type} {o:Option α} {k:α → Option β} {b:β} (h:o.bind k = some b):∃ a,o = some a ∧ k a = some b:=by
 cases o with
 | none=>cases h
 | some a=>exact ⟨a,rfl,h⟩
theorem W0 {α β:Type} {o:Option α} {k:α → β} {b:β} (h:o.map k = some b):∃ a,o = some a ∧ k a = b:=by
 cases o with
 | none=>cases h
 | some a=>exact ⟨a,rfl,by simpa using h⟩
section
variable {α β γ:Type} {δ δ1:List Sl} {d a b c z:D} {fa fb fc f:Fe} {o:Option α} {r:α → D × List Sl}
theorem X0:VP (X5 d) δ d:=rfl
theorem Jy (i:Nat) (h:δ[i]? = some (.fz d):=by rfl):VP (X2 i) δ d:=by
 unfold VP X2
 rw [h]
theorem Qba (i:Nat) {ds:List D} (h:δ[i]? = some (.ow (.list ds)):=by rfl):VP (fRd i) δ (.list ds):=by
 unfold VP fRd
 rw [h]
theorem Q9z {r':α → D × List Sl} (h:VN f δ o r) (e:∀ x,r x = r' x):VN f δ o r':=fun x hx=>(h x hx).trans (by rw [e])
theorem Qag {m:α → β} {r':β → D × List Sl} (h:VN f δ o r) (e:∀ x,r x = r' (m x)):VN f δ (o.map m) r':=fun y hy=>by
 obtain ⟨x,hx,rfl⟩:=W0 hy
 exact (h x hx).trans (by rw [e])
theorem Qbt (h:VP f δ a) {v:β} {r':β → D × List Sl} (e:(a,δ) = r' v):VN f δ (some v) r':=fun y hy=>by
 cases hy
 exact (show f δ = some (a,δ) from h).trans (by rw [e])
theorem Xa:AP Y3 δ []:=rfl
variable {fr:Fs} {ds:List D}
theorem X8 (ha:VP fa δ a) (hr:AP fr δ ds):AP (X7 fa fr) δ (a :: ds):=by
 unfold AP X7
 rw [show fa δ = some (a,δ) from ha,Q1,show fr δ = some (ds,δ) from hr]
 rfl
theorem Q1u {r:α → List D × List Sl} (ha:VP fa δ a) (hr:AN fr δ o r):AN (X7 fa fr) δ o (fun x=>(a :: (r x).1,(r x).2)):=fun x hx=>by
 unfold X7
 rw [show fa δ = some (a,δ) from ha,Q1,hr x hx]
 rfl
theorem Y5 {ds:α → List D} (ha:VN fa δ o r) (hr:∀ x,AP fr (r x).2 (ds x)):AN (X7 fa fr) δ o (fun x=>((r x).1 :: ds x,(r x).2)):=fun x hx=>by
 unfold X7
 rw [ha x hx,Q1,show fr (r x).2 = some (ds x,(r x).2) from hr x]
 rfl
theorem Q2w {o':α → Option β} {r':α → β → List D × List Sl} (ha:VN fa δ o r) (hr:∀ x,AN fr (r x).2 (o' x) (r' x)):AN (X7 fa fr) δ (o.bind fun x=>(o' x).map fun y=>(x,y)) (fun p=>((r p.1).1 :: (r' p.1 p.2).1,(r' p.1 p.2).2)):=fun p hp=>by
 obtain ⟨x,hx,hp⟩:=Xw hp
 obtain ⟨y,hy,rfl⟩:=W0 hp
 unfold X7
 rw [ha x hx,Q1,hr x y hy]
 rfl
variable {g:D → D → Option D}
theorem Vk (ha:VP fa δ a) (hb:VP fb δ b) (hz:g a b = some z):VP (f2 g fa fb) δ z:=by
 unfold VP f2
 rw [show fa δ = some (a,δ) from ha,Q1,show fb δ = some (b,δ) from hb,Q1,hz]
 rfl
theorem Vt {q:Option β} {e:β → D} (ha:VP fa δ a) (hb:VP fb δ b) (hz:∀ v,q = some v → g a b = some (e v)):VN (f2 g fa fb) δ q (fun v=>(e v,δ)):=fun v hv=>by
 unfold f2
 rw [show fa δ = some (a,δ) from ha,Q1,show fb δ = some (b,δ) from hb,Q1,hz v hv]
 rfl
theorem Qbn:f2 g fa fb δ = fA (g2 g) (X7 fa (X7 fb Y3)) δ:=by
 unfold f2 fA X7 Y3
 cases fa δ with
 | none=>rfl
 | some p =>
  simp only [Q1]
  cases fb p.2 with
  | none=>rfl
  | some q=>rfl
variable {G:List D → Option D}
theorem Q5A (h:AP fr δ ds) (hz:G ds = some z):VP (fA G fr) δ z:=by
 unfold VP fA
 rw [show fr δ = some (ds,δ) from h,Q1,hz]
 rfl
theorem Q6Z {q:Option β} {e:β → D} (h:AP fr δ ds) (hz:∀ v,q = some v → G ds = some (e v)):VN (fA G fr) δ q (fun v=>(e v,δ)):=fun v hv=>by
 unfold fA
 rw [show fr δ = some (ds,δ) from h,Q1,hz v hv]
 rfl
theorem Q6s {r:α → List D × List Sl} {z:α → D} (h:AN fr δ o r) (hz:∀ x,G (r x).1 = some (z x)):VN (fA G fr) δ o (fun x=>(z x,(r x).2)):=fun x hx=>by
 unfold fA
 rw [h x hx,Q1,hz x]
 rfl
theorem Qbp {r:α → List D × List Sl} {q:α → Option β} {e:α → β → D} (h:AN fr δ o r) (hz:∀ x v,q x = some v → G (r x).1 = some (e x v)):VN (fA G fr) δ (o.bind fun x=>(q x).map fun v=>(x,v)) (fun p=>(e p.1 p.2,(r p.1).2)):=fun p hp=>by
 obtain ⟨x,hx,hp⟩:=Xw hp
 obtain ⟨v,hv,rfl⟩:=W0 hp
 unfold fA
 rw [h x hx,Q1,hz x v hv]
 rfl
theorem Q1T {r:α → List D × List Sl} {z:α → D} (h:AN (X7 fa (X7 fb Y3)) δ o r) (hz:∀ x,g2 g (r x).1 = some (z x)):VN (f2 g fa fb) δ o (fun x=>(z x,(r x).2)):=fun x hx=>Qbn.trans (Q6s h hz x hx)
theorem Q2c {r:α → List D × List Sl} {q:α → Option β} {e:α → β → D} (h:AN (X7 fa (X7 fb Y3)) δ o r) (hz:∀ x v,q x = some v → g2 g (r x).1 = some (e x v)):VN (f2 g fa fb) δ (o.bind fun x=>(q x).map fun v=>(x,v)) (fun p=>(e p.1 p.2,(r p.1).2)):=fun x hx=>Qbn.trans (Qbp h hz x hx)
variable {u:D → Option D}
theorem Q6d (ha:VP fa δ a) (hz:u a = some z):VP (f1 u fa) δ z:=by
 unfold VP f1
 rw [show fa δ = some (a,δ) from ha,Q1,hz]
 rfl
theorem Q7d (h:AP fr δ ds) (hl:decide (ds.length ≤ 1000) = true:=by rfl):VP (Q2J fr) δ (.tuple ds):=by
 unfold VP Q2J
 rw [show fr δ = some (ds,δ) from h,Q1]
 exact if_pos (Jq (of_decide_eq_true hl) (by rw [sizeLine_eq]; omega))
theorem Q7c {r:α → List D × List Sl} (h:AN fr δ o r) (hl:∀ x,decide ((r x).1.length ≤ 1000) = true:=by intro _; rfl):VN (Q2J fr) δ o (fun x=>(.tuple (r x).1,(r x).2)):=fun x hx=>by
 unfold Q2J
 rw [h x hx,Q1]
 exact if_pos (Jq (of_decide_eq_true (hl x)) (by rw [sizeLine_eq]; omega))
theorem Q1r (h:AP fr δ ds) (hl:decide (ds.length ≤ 1000) = true:=by rfl):VP (Q1q fr) δ (.list ds):=by
 unfold VP Q1q
 rw [show fr δ = some (ds,δ) from h,Q1]
 exact if_pos (Jq (of_decide_eq_true hl) (by rw [sizeLine_eq]; omega))
theorem Qb2 {r:α → List D × List Sl} (h:AN fr δ o r) (hl:∀ x,decide ((r x).1.length ≤ 1000) = true:=by intro _; rfl):VN (Q1q fr) δ o (fun x=>(.list (r x).1,(r x).2)):=fun x hx=>by
 unfold Q1q
 rw [h x hx,Q1]
 exact if_pos (Jq (of_decide_eq_true (hl x)) (by rw [sizeLine_eq]; omega))
theorem Kk {b:Bool} (h:VP f δ (.bool b)):TP (fun δ=>toB (f δ)) δ b:=by
 unfold TP
 show toB (f δ) = _
 rw [show f δ = some (.bool b,δ) from h]
 rfl
theorem Q0q {b:α → Bool} (h:VN f δ o r) (hb:∀ x,(r x).1 = .bool (b x)):TN (fun δ=>toB (f δ)) δ o (fun x=>(b x,(r x).2)):=fun x hx=>by
 show toB (f δ) = _
 rw [h x hx,show r x = (.bool (b x),(r x).2) from by rw [← hb x]]
 rfl
variable {ga gb:Fb} {s t:Bool}
theorem Q4D (h:TP ga δ s):TP (Q06 ga) δ (!s):=by
 unfold TP Q06
 rw [show ga δ = some (s,δ) from h]
 rfl
theorem Q0w {r:α → Bool × List Sl} (h:TN ga δ o r):TN (Q06 ga) δ o (fun x=>(!(r x).1,(r x).2)):=fun x hx=>by
 unfold Q06
 rw [h x hx]
 rfl
theorem Q28 {m:α → β} {r:α → Bool × List Sl} {r':β → Bool × List Sl} (h:TN ga δ o r) (e:∀ x,r x = r' (m x)):TN ga δ (o.map m) r':=fun y hy=>by
 obtain ⟨x,hx,rfl⟩:=W0 hy
 exact (h x hx).trans (by rw [e])
theorem Q7S {r r':α → Bool × List Sl} (h:TN ga δ o r) (e:∀ x,r x = r' x):TN ga δ o r':=fun x hx=>(h x hx).trans (by rw [e])
theorem Q3n {o:Option β} {r:β → Bool × List Sl} {v:β} (h:TP ga δ s) (k:TN gb δ o r) (hv:r v = (true,δ)):TN (gOr ga gb) δ (if s then some v else o) r:=fun x hx=>by
 unfold gOr
 rw [show ga δ = some (s,δ) from h]
 cases s
 ·exact k x hx
 ·cases hx; exact congrArg some hv.symm
theorem Q91 {r:α → Bool × List Sl} {o':α → Option β} {r':β → Bool × List Sl} {b:α → Bool} {v:α → β} (h:TN ga δ o r) (hb:∀ x,(r x).1 = b x) (k:∀ x,TN gb (r x).2 (o' x) r') (hv:∀ x,r' (v x) = (false,(r x).2)):TN (Q6W ga gb) δ (o.bind fun x=>if b x then o' x else some (v x)) r':=fun y hy=>by
 obtain ⟨x,hx,hy⟩:=Xw hy
 unfold Q6W
 rw [h x hx,Q1,hb x]
 cases e:b x with
 | false=>rw [e] at hy; cases hy; exact congrArg some (hv x).symm
 | true=>rw [e] at hy; exact k x y hy
theorem Q4C {r:α → Bool × List Sl} {o':α → Option β} {r':β → Bool × List Sl} {b:α → Bool} {v:α → β} (h:TN ga δ o r) (hb:∀ x,(r x).1 = b x) (k:∀ x,TN gb (r x).2 (o' x) r') (hv:∀ x,r' (v x) = (true,(r x).2)):TN (gOr ga gb) δ (o.bind fun x=>if b x then some (v x) else o' x) r':=fun y hy=>by
 obtain ⟨x,hx,hy⟩:=Xw hy
 unfold gOr
 rw [h x hx,Q1,hb x]
 cases e:b x with
 | true=>rw [e] at hy; cases hy; exact congrArg some (hv x).symm
 | false=>rw [e] at hy; exact k x y hy
theorem Q7V (h:VP fa δ (.bool s)) (k:VP fb δ (.bool t)):VP (Q5O fa fb) δ (.bool (s && t)):=by
 unfold VP Q5O
 rw [show fa δ = some (.bool s,δ) from h]
 cases s
 ·rfl
 ·exact k
theorem Qa9 (h:VP fa δ (.bool s)):VP (Q74 fa) δ (.bool (!s)):=by
 unfold VP Q74
 rw [show fa δ = some (.bool s,δ) from h]
 rfl
variable {h1 h2:D → D → Option D}
theorem Q4p (ha:VP fa δ a) (hb:VP fb δ b) (hc:VP fc δ c) (e1:h1 a b = some (.bool s)) (e2:h2 b c = some (.bool t)):VP (We h1 h2 fa fb fc) δ (.bool (s && t)):=by
 unfold VP We
 rw [show fa δ = some (a,δ) from ha,Q1,show fb δ = some (b,δ) from hb,Q1,e1,Q1]
 cases s
 ·rfl
 ·show (fc δ).bind _ = _
  rw [show fc δ = some (c,δ) from hc,Q1,e2]
  rfl
theorem Q7j {r:α → List D × List Sl} {a b c:α → D} {s t:α → Bool} (h:AN (X7 fa (X7 fb Y3)) δ o r) (hr:∀ x,(r x).1 = [a x,b x]) (hc:∀ x,VP fc (r x).2 (c x)) (e1:∀ x,h1 (a x) (b x) = some (.bool (s x))) (e2:∀ x,h2 (b x) (c x) = some (.bool (t x))):VN (We h1 h2 fa fb fc) δ o (fun x=>(.bool (s x && t x),(r x).2)):=fun x hx=>by
 have q:=h x hx
 unfold X7 at q
 obtain ⟨p,e3,q⟩:=Xw q
 obtain ⟨p2,e4,q⟩:=W0 q
 unfold Y3 at e4
 obtain ⟨p3,e5,e6⟩:=Xw e4
 obtain ⟨p4,e7,e8⟩:=W0 e6
 cases e7
 subst e8
 have e9:r x = (p.1 :: [p3.1],p3.2):=q.symm
 have e10:=hr x
 rw [e9] at e10
 have e11:p.1 = a x:=(List.cons.inj e10).1
 have e12:p3.1 = b x:=(List.cons.inj (List.cons.inj e10).2).1
 have hc':=hc x
 rw [e9] at hc'
 have e13:(r x).2 = p3.2:=by rw [e9]
 unfold We
 rw [e3,Q1,e5,Q1,e11,e12,e1 x,Q1]
 show _ = some (Qg (s x && t x),(r x).2)
 rw [e13]
 cases s x
 ·rfl
 ·show (fc p3.2).bind _ = _
  rw [show fc p3.2 = some (c x,p3.2) from hc',Q1,e2 x]
  rfl
end
end Z
namespace Z
open PySem PySem.Spec PyProof.Rows L2
section
variable {α β γ:Type} {δ δ1:List Sl} {d a b c z:D} {fa fb fc f:Fe} {o:Option α} {r:α → D × List Sl}
variable {fk:Fk} {as:List Ar}
theorem Yn:KP Ve δ []:=rfl
theorem Xo (ha:VP fa δ a) (hr:KP fk δ as):KP (Xn fa fk) δ (.d a :: as):=by
 unfold KP Xn
 rw [show fa δ = some (a,δ) from ha,Q1,show fk δ = some (as,δ) from hr]
 rfl
theorem Q9I (i:Nat) (hr:KP fk δ as) (h:Q2P i δ = true:=by rfl):KP (kIo i fk) δ (.io i :: as):=by
 unfold KP kIo
 rw [if_pos h,show fk δ = some (as,δ) from hr]
 rfl
theorem Q9X (i:Nat) {r:α → List Ar × List Sl} (hr:KN fk δ o r) (h:Q2P i δ = true:=by rfl):KN (kIo i fk) δ o (fun x=>(.io i :: (r x).1,(r x).2)):=fun x hx=>by
 unfold kIo
 rw [if_pos h,hr x hx]
 rfl
theorem Q9O {ds:α → List Ar} (ha:VN fa δ o r) (hr:∀ x,KP fk (r x).2 (ds x)):KN (Xn fa fk) δ o (fun x=>(.d (r x).1 :: ds x,(r x).2)):=fun x hx=>by
 unfold Xn
 rw [ha x hx,Q1,show fk (r x).2 = some (ds x,(r x).2) from hr x]
 rfl
theorem Qbm {o':α → Option β} {r':α → β → List Ar × List Sl} (ha:VN fa δ o r) (hr:∀ x,KN fk (r x).2 (o' x) (r' x)):KN (Xn fa fk) δ (o.bind fun x=>(o' x).map fun y=>(x,y)) (fun p=>(.d (r p.1).1 :: (r' p.1 p.2).1,(r' p.1 p.2).2)):=fun p hp=>by
 obtain ⟨x,hx,hp⟩:=Xw hp
 obtain ⟨y,hy,rfl⟩:=W0 hp
 unfold Xn
 rw [ha x hx,Q1,hr x y hy]
 rfl
variable {φ:Fe} {R:List Nat}
theorem Yf {q:Option β} {dv:β → D} {outs:β → List Sl} (h:KP fk δ as) (hφ:∀ v,q = some v → φ (as.map (Q3R δ)) = some (dv v,outs v)) (ok:Q0b R δ as = true:=by rfl) (ho:∀ v,(Vn R as (outs v) && (R.isEmpty || (true && noL (dv v)))) = true:=by intro _; rfl):VN (Y6 R true φ fk) δ q (fun v=>(dv v,Yl as (outs v) δ)):=fun v hv=>by
 unfold Y6
 rw [show fk δ = some (as,δ) from h,Q1,if_pos ok,hφ v hv,Q1,if_pos (ho v)]
theorem Q4w {r:α → List Ar × List Sl} {q:α → Option β} {dv:α → β → D} {outs:α → β → List Sl} (h:KN fk δ o r) (hφ:∀ x v,q x = some v → φ ((r x).1.map (Q3R (r x).2)) = some (dv x v,outs x v)) (ok:∀ x,Q0b R (r x).2 (r x).1 = true:=by intro _; rfl) (ho:∀ x v,(Vn R (r x).1 (outs x v) && (R.isEmpty || (true && noL (dv x v)))) = true:=by intro _ _; rfl):VN (Y6 R true φ fk) δ (o.bind fun x=>(q x).map fun v=>(x,v)) (fun p=>(dv p.1 p.2,Yl (r p.1).1 (outs p.1 p.2) (r p.1).2)):=fun p hp=>by
 obtain ⟨x,hx,hp⟩:=Xw hp
 obtain ⟨v,hv,rfl⟩:=W0 hp
 unfold Y6
 rw [h x hx,Q1,if_pos (ok x),hφ x v hv,Q1,if_pos (ho x v)]
variable {fl fh:Fo} {lo hi:Option Int} {g3:D → Option Int → Option Int → Option D}
theorem Q0O:OP Q2i δ none:=rfl
theorem Q13 {i:Int} (h:VP fa δ (.int i)):OP (Q0S fa) δ (some i):=by
 unfold OP Q0S
 rw [show fa δ = some (.int i,δ) from h]
 rfl
theorem Q9W (ha:VP fa δ a) (hl:OP fl δ lo) (hh:OP fh δ hi) (hz:g3 a lo hi = some z):VP (f3 g3 fa fl fh) δ z:=by
 unfold VP f3
 rw [show fa δ = some (a,δ) from ha,Q1,show fl δ = some (lo,δ) from hl,Q1,show fh δ = some (hi,δ) from hh,Q1,hz]
 rfl
theorem Q9t {q:Option β} {e:β → D} (ha:VP fa δ a) (hl:OP fl δ lo) (hh:OP fh δ hi) (hz:∀ v,q = some v → g3 a lo hi = some (e v)):VN (f3 g3 fa fl fh) δ q (fun v=>(e v,δ)):=fun v hv=>by
 unfold f3
 rw [show fa δ = some (a,δ) from ha,Q1,show fl δ = some (lo,δ) from hl,Q1,show fh δ = some (hi,δ) from hh,Q1,hz v hv]
 rfl
variable {fi fr:Fs} {ds:List D}
theorem Q75 (h:VP fa δ a) (hz:Q0p a = some ds):AP (fIt fa) δ ds:=by
 unfold AP fIt
 rw [show fa δ = some (a,δ) from h,Q1,hz]
 rfl
theorem Q7G {z:α → List D} (h:VN fa δ o r) (hz:∀ x,Q0p (r x).1 = some (z x)):AN (fIt fa) δ o (fun x=>(z x,(r x).2)):=fun x hx=>by
 unfold fIt
 rw [h x hx,Q1,hz x]
 rfl
def Q1h (lo:Int) (n:Nat):List Int:=(Jn n).map fun i=>lo + (i:Nat)
theorem Q5w (lo:Int) (n:Nat):Q2H lo n = (Q1h lo n).map Q0:=by
 unfold Q2H Q1h
 rw [List.map_map]
 rfl
def Q9h (j:Int):Option (List Int):=if V1 j then some (Q1h 0 j.toNat) else none
theorem Q3w {j:Int} (h:AP fr δ [.int j]) (hj:V1 j = true:=by decide):AP (Q1f fr) δ ((Q1h 0 j.toNat).map Q0):=by
 unfold AP Q1f
 rw [show fr δ = some ([.int j],δ) from h,Q1]
 show (if V1 j = true then some (Q2H 0 j.toNat,δ) else none) = _
 rw [if_pos hj,Q5w]
theorem Q7u {r:α → List D × List Sl} {j:α → Int} (h:AN fr δ o r) (hr:∀ x,(r x).1 = [.int (j x)]):AN (Q1f fr) δ (o.bind fun x=>(Q9h (j x)).map fun xs=>(x,xs)) (fun p=>(p.2.map Q0,(r p.1).2)):=fun p hp=>by
 obtain ⟨x,hx,hp⟩:=Xw hp
 obtain ⟨v,hv,rfl⟩:=W0 hp
 unfold Q9h at hv
 unfold Q1f
 rw [h x hx,Q1]
 have e:r x = ([.int (j x)],(r x).2):=by rw [← hr x]
 rw [e]
 show (if V1 (j x) = true then some (Q2H 0 (j x).toNat,(r x).2) else none) = _
 split at hv
 ·rename_i c; cases hv; rw [if_pos c,Q5w]
 ·cases hv
theorem Kb (i:Nat) (h:decide (i < δ.length) = true:=by rfl):Xp (.nm i) d δ = some (δ.set i (.fz d)):=by
 unfold Xp
 exact if_pos (of_decide_eq_true h)
theorem Q5b:Xj .nil [] δ = some δ:=by unfold Xj; rfl
theorem Q0N {T U:Tt} {δ2:List Sl} (h:Xp T d δ = some δ1) (k:Xj U ds δ1 = some δ2):Xj (.cons T U) (d :: ds) δ = some δ2:=by
 unfold Xj
 rw [h]
 exact k
theorem Qb8 {T U:Tt} (h:Xj (.cons T U) ds δ = some δ1):Xp (.cons T U) (.tuple ds) δ = some δ1:=by
 unfold Xp
 exact h
variable {T:Tt} {vs:List Nat} {cc:Fb} {fe:Fe} {ι τ σ:Type} {e:ι → D} {e':τ → D} {xs:List ι}
def Q9l (f:ι → τ) (xs:List ι):Option (List τ):=if xs.length ≤ sizeLine then some (xs.map f) else none
def Q2b (c:ι → σ → Option (Bool × σ)) (f:ι → σ → Option (τ × σ)):List ι → σ → Option (List τ × σ)
 | [],s=>some ([],s)
 | x :: xs,s=>(c x s).bind fun p=>match p.1 with
  | true=>(f x p.2).bind fun q=>(Q2b c f xs q.2).map fun z=>(q.1 :: z.1,z.2)
  | false=>Q2b c f xs p.2
def mapM (f:ι → Option τ):List ι → Option (List τ)
 | []=>some []
 | x :: xs=>(f x).bind fun y=>(mapM f xs).map fun ys=>y :: ys
def Q3I (c:ι → Option Bool) (f:ι → Option τ):List ι → Option (List τ)
 | []=>some []
 | x :: xs=>(c x).bind fun b=>match b with
  | true=>(f x).bind fun y=>(Q3I c f xs).map fun ys=>y :: ys
  | false=>Q3I c f xs
def Q4G (f:ι → σ → Option (τ × σ)):List ι → σ → Option (List τ × σ)
 | [],s=>some ([],s)
 | x :: xs,s=>(f x s).bind fun q=>(Q4G f xs q.2).map fun z=>(q.1 :: z.1,z.2)
def Kt (xs:List ι) (o:Option τ):Option τ:=if xs.length ≤ sizeLine then o else none
theorem Q3K {cb:ι → Bool} {fb:ι → τ} {δb:ι → List Sl} (hT:∀ x,Xp T (e x) δ = some (δb x)) (hc:∀ x,TP cc (δb x) (cb x)) (hf:∀ x,VP fe (δb x) (e' (fb x))) (hw:∀ x,Xg vs (δb x) = δ):∀ xs:List ι,Vd T vs cc fe (xs.map e) δ = some (((xs.filter cb).map fb).map e',δ)
 | []=>rfl
 | x :: xs=>by
  rw [Qq]
  unfold Vd
  rw [hT x,Q1,show cc (δb x) = some (cb x,δb x) from hc x,Q1,List.filter_cons]
  cases cb x
  ·show Vd T vs cc fe (xs.map e) (Xg vs (δb x)) = _
   rw [hw x]
   exact Q3K hT hc hf hw xs
  ·show (fe (δb x)).bind _ = _
   rw [show fe (δb x) = some (e' (fb x),δb x) from hf x,Q1,hw x,Q3K hT hc hf hw xs]
   rfl
theorem Q7l {fb:ι → τ} {δb:ι → List Sl} (hi:AP fi δ (xs.map e)) (hT:∀ x,Xp T (e x) δ = some (δb x)) (hf:∀ x,VP fe (δb x) (e' (fb x))) (hw:∀ x,Xg vs (δb x) = δ:=by intro _; rfl) (hn:noS vs δ = true:=by rfl):VN (fLc T vs fi Kq fe) δ (Q9l fb xs) (fun ys=>(eLi e' ys,δ)):=fun ys hy=>by
 have q:=Q3K (cc:=Kq) (cb:=fun _=>true) hT (fun _=>rfl) hf hw xs
 unfold Q9l at hy
 split at hy
 ·rename_i c
  cases hy
  unfold fLc
  rw [show fi δ = some (xs.map e,δ) from hi,Q1,if_pos (by rw [hn,Q3,decide_eq_true c]; rfl),q,List.filter_eq_self.mpr (fun _ _=>rfl)]
  rfl
 ·cases hy
theorem Q3f {st:σ → List Sl} {cN:ι → σ → Option (Bool × σ)} {fN:ι → σ → Option (τ × σ)} {δb δc:ι → σ → List Sl} (hT:∀ x s,Xp T (e x) (st s) = some (δb x s)) (hc:∀ x s,TN cc (δb x s) (cN x s) (fun p=>(p.1,δc x p.2))) (hf:∀ x s,VN fe (δc x s) (fN x s) (fun q=>(e' q.1,δc x q.2))) (hw:∀ x s,Xg vs (δc x s) = st s):∀ (xs:List ι) (s:σ) (z:List τ × σ),Q2b cN fN xs s = some z → Vd T vs cc fe (xs.map e) (st s) = some (z.1.map e',st z.2)
 | [],s,z,h=>by cases h; rfl
 | x :: xs,s,z,h=>by
  unfold Q2b at h
  obtain ⟨p,hp,h⟩:=Xw h
  rw [Qq]
  unfold Vd
  rw [hT x s,Q1,hc x s p hp,Q1]
  obtain ⟨b,s1⟩:=p
  cases b
  ·show Vd T vs cc fe (xs.map e) (Xg vs (δc x s1)) = _
   rw [hw]
   exact Q3f hT hc hf hw xs s1 z h
  ·obtain ⟨q,hq,h⟩:=Xw h
   obtain ⟨w,hw2,rfl⟩:=W0 h
   show (fe (δc x s1)).bind _ = _
   rw [hf x s1 q hq,Q1]
   show (Vd T vs cc fe (xs.map e) (Xg vs (δc x q.2))).map _ = _
   rw [hw,Q3f hT hc hf hw xs q.2 w hw2]
   rfl
theorem QaA {st:σ → List Sl} {s0:σ} {cN:ι → σ → Option (Bool × σ)} {fN:ι → σ → Option (τ × σ)} {δb δc:ι → σ → List Sl} (hi:AP fi δ (xs.map e)) (hT:∀ x s,Xp T (e x) (st s) = some (δb x s)) (hc:∀ x s,TN cc (δb x s) (cN x s) (fun p=>(p.1,δc x p.2))) (hf:∀ x s,VN fe (δc x s) (fN x s) (fun q=>(e' q.1,δc x q.2))) (h0:δ = st s0:=by rfl) (hw:∀ x s,Xg vs (δc x s) = st s:=by intro _ _; rfl) (hn:noS vs δ = true:=by rfl):VN (fLc T vs fi cc fe) δ (Kt xs (Q2b cN fN xs s0)) (fun z=>(eLi e' z.1,st z.2)):=fun z hz=>by
 unfold Kt at hz
 split at hz
 ·rename_i c
  unfold fLc
  rw [show fi δ = some (xs.map e,δ) from hi,Q1,if_pos (by rw [hn,Q3,decide_eq_true c]; rfl)]
  subst h0
  rw [Q3f hT hc hf hw xs s0 z hz]
  rfl
 ·cases hz
theorem Q3c {fN:ι → σ → Option (τ × σ)}:∀ (xs:List ι) (s:σ),Q2b (fun _ s=>some (true,s)) fN xs s = Q4G fN xs s
 | [],s=>rfl
 | x :: xs,s=>by
  unfold Q2b Q4G
  simp only [Q1]
  exact congrArg _ (funext fun q=>by rw [Q3c])
theorem Q8t {st:σ → List Sl} {s0:σ} {fN:ι → σ → Option (τ × σ)} {δb:ι → σ → List Sl} (hi:AP fi δ (xs.map e)) (hT:∀ x s,Xp T (e x) (st s) = some (δb x s)) (hf:∀ x s,VN fe (δb x s) (fN x s) (fun q=>(e' q.1,δb x q.2))) (h0:δ = st s0:=by rfl) (hw:∀ x s,Xg vs (δb x s) = st s:=by intro _ _; rfl) (hn:noS vs δ = true:=by rfl):VN (fLc T vs fi Kq fe) δ (Kt xs (Q4G fN xs s0)) (fun z=>(eLi e' z.1,st z.2)):=by
 rw [← Q3c]
 exact QaA (cc:=Kq) (δb:=δb) (δc:=δb) hi hT (fun x s p hp=>by cases hp; rfl) hf h0 hw hn
theorem Q3j {cN:ι → Option Bool} {fN:ι → Option τ} {δb:ι → List Sl} (hT:∀ x,Xp T (e x) δ = some (δb x)) (hc:∀ x,TN cc (δb x) (cN x) (fun p=>(p,δb x))) (hf:∀ x,VN fe (δb x) (fN x) (fun q=>(e' q,δb x))) (hw:∀ x,Xg vs (δb x) = δ):∀ (xs:List ι) (z:List τ),Q3I cN fN xs = some z → Vd T vs cc fe (xs.map e) δ = some (z.map e',δ)
 | [],z,h=>by cases h; rfl
 | x :: xs,z,h=>by
  unfold Q3I at h
  obtain ⟨b,hb,h⟩:=Xw h
  rw [Qq]
  unfold Vd
  rw [hT x,Q1,hc x b hb,Q1]
  cases b
  ·show Vd T vs cc fe (xs.map e) (Xg vs (δb x)) = _
   rw [hw]
   exact Q3j hT hc hf hw xs z h
  ·obtain ⟨q,hq,h⟩:=Xw h
   obtain ⟨w,hw2,rfl⟩:=W0 h
   show (fe (δb x)).bind _ = _
   rw [hf x q hq,Q1]
   show (Vd T vs cc fe (xs.map e) (Xg vs (δb x))).map _ = _
   rw [hw,Q3j hT hc hf hw xs w hw2]
   rfl
theorem Q6T {cN:ι → Option Bool} {fN:ι → Option τ} {δb:ι → List Sl} (hi:AP fi δ (xs.map e)) (hT:∀ x,Xp T (e x) δ = some (δb x)) (hc:∀ x,TN cc (δb x) (cN x) (fun p=>(p,δb x))) (hf:∀ x,VN fe (δb x) (fN x) (fun q=>(e' q,δb x))) (hw:∀ x,Xg vs (δb x) = δ:=by intro _; rfl) (hn:noS vs δ = true:=by rfl):VN (fLc T vs fi cc fe) δ (Kt xs (Q3I cN fN xs)) (fun z=>(eLi e' z,δ)):=fun z hz=>by
 unfold Kt at hz
 split at hz
 ·rename_i c
  unfold fLc
  rw [show fi δ = some (xs.map e,δ) from hi,Q1,if_pos (by rw [hn,Q3,decide_eq_true c]; rfl),Q3j hT hc hf hw xs z hz]
  rfl
 ·cases hz
theorem Q42 {fN:ι → Option τ}:∀ (xs:List ι),Q3I (fun _=>some true) fN xs = mapM fN xs
 | []=>rfl
 | x :: xs=>by
  unfold Q3I mapM
  simp only [Q1]
  exact congrArg _ (funext fun q=>by rw [Q42])
theorem Q5q {fN:ι → Option τ} {δb:ι → List Sl} (hi:AP fi δ (xs.map e)) (hT:∀ x,Xp T (e x) δ = some (δb x)) (hf:∀ x,VN fe (δb x) (fN x) (fun q=>(e' q,δb x))) (hw:∀ x,Xg vs (δb x) = δ:=by intro _; rfl) (hn:noS vs δ = true:=by rfl):VN (fLc T vs fi Kq fe) δ (Kt xs (mapM fN xs)) (fun z=>(eLi e' z,δ)):=by
 rw [← Q42]
 exact Q6T (cc:=Kq) (δb:=δb) hi hT (fun x p hp=>by cases hp; rfl) hf hw hn
theorem Q7r {r:α → List D × List Sl} {o':α → Option β} {r':α → β → D × List Sl} (hi:AN fi δ o r) (h:∀ x,VN (fLc T vs (fun δ=>some ((r x).1,δ)) cc fe) (r x).2 (o' x) (r' x)):VN (fLc T vs fi cc fe) δ (o.bind fun x=>(o' x).map fun y=>(x,y)) (fun p=>r' p.1 p.2):=fun p hp=>by
 obtain ⟨x,hx,hp⟩:=Xw hp
 obtain ⟨y,hy,rfl⟩:=W0 hp
 have:=h x y hy
 unfold fLc at this ⊢
 rw [Q1] at this
 rw [hi x hx,Q1]
 exact this
theorem Q5y:AP (fun δ=>some (ds,δ)) δ ds:=rfl
end
end Z
namespace Z
open PySem PySem.Spec PyProof.Rows L2
abbrev Fg:=List Sl → Option Out
inductive Oc where
 | nx (δ:List Sl)
 | lp (δ:List Sl)
 | rt (d:D) (outs:List Sl)
def OcR (as:List Sl → Option (List Sl)) (x:Option Out):Oc → Prop
 | .nx δ'=>x = some (.nx δ')
 | .lp δ'=>x = some (.nx δ') ∨ x = some (.ct δ')
 | .rt d outs=>∃ δ',x = some (.rt d δ') ∧ as δ' = some outs
def SB {α:Type} (as:List Sl → Option (List Sl)) (g:Fg) (δ:List Sl) (o:Option α) (r:α → Oc):Prop:=∀ a,o = some a → OcR as (g δ) (r a)
section
variable {α β γ σ ρ:Type} {as:List Sl → Option (List Sl)} {δ δ1:List Sl} {d a b c z:D} {fa fb fc f:Fe} {o:Option β} {g g' ga gb:Fg} {r:β → Oc} {oe:Option α} {re:α → D × List Sl} {ok:α → Option β}
theorem Kr (h:g δ = some (.nx δ1)):Xb g g' δ = g' δ1:=by
 unfold Xb
 rw [h]
 rfl
theorem Q1c {i:Nat} (h:VP f δ d) (k:SB as g' (δ.set i (.fz d)) o r) (hi:decide (i < δ.length) = true:=by rfl):SB as (Xb (Yv i f) g') δ o r:=fun v hv=>by
 rw [Kr (δ1:=δ.set i (.fz d))]
 ·exact k v hv
 ·unfold Yv
  rw [show f δ = some (d,δ) from h]
  exact if_pos (of_decide_eq_true hi)
theorem Q8P {i:Nat} {e:α → D} {v:α} (h:VP f δ (e v)) (k:∀ x,SB as g' (δ.set i (.fz (e x))) (ok x) r) (hi:decide (i < δ.length) = true:=by rfl):SB as (Xb (Yv i f) g') δ (Q5R v ok) r:=Q1c h (k v) hi
theorem Zw {i:Nat} (h:VN f δ oe re) (k:∀ x,SB as g' ((re x).2.set i (.fz (re x).1)) (ok x) r) (hi:∀ x,decide (i < (re x).2.length) = true:=by intro _; rfl):SB as (Xb (Yv i f) g') δ (oe.bind ok) r:=fun v hv=>by
 obtain ⟨x,hx,hv⟩:=Xw hv
 rw [Kr (δ1:=(re x).2.set i (.fz (re x).1))]
 ·exact k x v hv
 ·unfold Yv
  rw [h x hx]
  exact if_pos (of_decide_eq_true (hi x))
theorem Q5z {i:Nat} {e:γ → D} {m:α → γ} {ok:α → γ → Option β} (h:VN f δ oe re) (hm:∀ x,(re x).1 = e (m x)) (k:∀ x y,SB as g' ((re x).2.set i (.fz (e y))) (ok x y) r) (hi:∀ x,decide (i < (re x).2.length) = true:=by intro _; rfl):SB as (Xb (Yv i f) g') δ (oe.bind fun x=>Q5R (m x) fun y=>ok x y) r :=
 Zw h (fun x=>by rw [hm x]; exact k x (m x)) hi
theorem Q8X {i:Nat} (h:VN f δ oe re) (k:∀ x,SB as g' ((re x).2.set i (.ow (re x).1)) (ok x) r) (hi:∀ x,decide (i < (re x).2.length) = true:=by intro _; rfl):SB as (Xb (Q2M i f) g') δ (oe.bind ok) r:=fun v hv=>by
 obtain ⟨x,hx,hv⟩:=Xw hv
 rw [Kr (δ1:=(re x).2.set i (.ow (re x).1))]
 ·exact k x v hv
 ·unfold Q2M
  rw [h x hx]
  exact if_pos (of_decide_eq_true (hi x))
variable {T:Tt} {fs:Fs} {ds:List D}
variable {cc:Fb} {s:Bool} {oa ob:Option β}
theorem Q22 {oc:Option α} {rc:α → Bool × List Sl} {bb:α → Bool} {oa ob:α → Option β} (hc:TN cc δ oc rc) (hb:∀ x,(rc x).1 = bb x) (ha:∀ x,SB as (Xb ga g') (rc x).2 (oa x) r) (hb2:∀ x,SB as (Xb gb g') (rc x).2 (ob x) r):SB as (Xb (sIf cc ga gb) g') δ (oc.bind fun x=>if bb x then oa x else ob x) r:=fun v hv=>by
 obtain ⟨x,hx,hv⟩:=Xw hv
 have e:Xb (sIf cc ga gb) g' δ = if bb x then Xb ga g' (rc x).2 else Xb gb g' (rc x).2:=by
  unfold Xb sIf
  rw [hc x hx,Q1,hb x]
  cases bb x <;> rfl
 rw [e]
 cases e2:bb x with
 | false=>rw [e2] at hv; exact hb2 x v hv
 | true=>rw [e2] at hv; exact ha x v hv
theorem Q89 {st:σ → List Sl} {oi:Option σ} {ok:σ → Option β} (h:SB as g δ oi (fun s=>.nx (st s))) (k:∀ s,SB as g' (st s) (ok s) r):SB as (Xb g g') δ (oi.bind ok) r:=fun v hv=>by
 obtain ⟨x,hx,hv⟩:=Xw hv
 rw [Kr (h x hx)]
 exact k x v hv
theorem Q8V {oc:Option α} {rc:α → Bool × List Sl} {bb:α → Bool} {oa ob:α → Option β} (hc:TN cc δ oc rc) (hb:∀ x,(rc x).1 = bb x) (ha:∀ x,SB as ga (rc x).2 (oa x) r) (hb2:∀ x,SB as gb (rc x).2 (ob x) r):SB as (sIf cc ga gb) δ (oc.bind fun x=>if bb x then oa x else ob x) r:=fun v hv=>by
 obtain ⟨x,hx,hv⟩:=Xw hv
 have e:sIf cc ga gb δ = if bb x then ga (rc x).2 else gb (rc x).2:=by
  unfold sIf
  rw [hc x hx,Q1,hb x]
  cases bb x <;> rfl
 rw [e]
 cases e2:bb x with
 | false=>rw [e2] at hv; exact hb2 x v hv
 | true=>rw [e2] at hv; exact ha x v hv
theorem Q4O {g1 g2 g3:Fg}:Xb (Xb g1 g2) g3 δ = Xb g1 (Xb g2 g3) δ:=by
 unfold Xb
 cases g1 δ with
 | none=>rfl
 | some o=>cases o <;> rfl
theorem Z3 {g1 g2 g3:Fg} (h:SB as (Xb g1 (Xb g2 g3)) δ o r):SB as (Xb (Xb g1 g2) g3) δ o r:=fun v hv=>by
 rw [Q4O]
 exact h v hv
theorem X9 {δ':List Sl} (h:SB as g δ' o r) (e:δ = δ':=by rfl):SB as g δ o r:=e ▸ h
theorem g2x {g:D → D → Option D} {o:Option D} (h:g a b = o):g2 g [a,b] = o:=h
theorem Q0Y (h:SB as g' δ o r):SB as (Xb Xe g') δ o r:=h
theorem Q7Z {vs:List Nat} (h:SB as (Xb g g') (Xg vs δ) o r):SB as (Xb (Q8w vs g) g') δ o r:=h
theorem Q6X {v:β} (h:r v = .nx δ):SB as Xe δ (some v) r:=fun w hw=>by cases hw; rw [h]; rfl
theorem Q47 {v:β} {vs:List Nat} (h:r v = .lp (Xg vs δ)):SB as (Q1G vs) δ (some v) r:=fun w hw=>by cases hw; rw [h]; exact .inl rfl
theorem Wy {v:β} {outs:List Sl} (h:VP f δ d) (hr:r v = .rt d outs) (hm:as δ = some outs:=by rfl):SB as (Xb (Ym f) g') δ (some v) r:=fun w hw=>by
 cases hw
 rw [hr]
 refine ⟨δ,?_,hm⟩
 unfold Xb Ym
 rw [show f δ = some (d,δ) from h]
 rfl
theorem Q0D {v:α → β} {outs:α → List Sl} (h:VN f δ oe re) (hr:∀ x,r (v x) = .rt (re x).1 (outs x)) (hm:∀ x,as (re x).2 = some (outs x):=by intro _; rfl):SB as (Xb (Ym f) g') δ (oe.bind fun x=>some (v x)) r:=fun w hw=>by
 obtain ⟨x,hx,hw⟩:=Xw hw
 cases hw
 rw [hr]
 refine ⟨_,?_,hm x⟩
 unfold Xb Ym
 rw [h x hx]
 rfl
variable {ι:Type} {e:ι → D} {fi:Fs} {body:Fg} {xs:List ι}
def Q4v (step:ι → σ → Option (σ ⊕ ρ)):List ι → σ → Option (σ ⊕ ρ)
 | [],s=>some (.inl s)
 | x :: xs,s=>(step x s).bind fun w=>match w with
  | .inl s'=>Q4v step xs s'
  | .inr v=>some (.inr v)
theorem Q4z {st:σ → List Sl} {step:ι → σ → Option (σ ⊕ ρ)} {δb:ι → σ → List Sl} {rv:ρ → D} {ro:ρ → List Sl} (hT:∀ x s,Xp T (e x) (st s) = some (δb x s)) (hb:∀ x s,SB as body (δb x s) (step x s) (Jm (fun s'=>.lp (st s')) (fun v=>.rt (rv v) (ro v)))):∀ (xs:List ι) (s:σ) (w:σ ⊕ ρ),Q4v step xs s = some w → OcR as (Q1O T body (xs.map e) (st s)) (Jm (fun s'=>.nx (st s')) (fun v=>.rt (rv v) (ro v)) w)
 | [],s,w,h=>by cases h; rfl
 | x :: xs,s,w,h=>by
  unfold Q4v at h
  obtain ⟨w1,h1,h⟩:=Xw h
  rw [Qq]
  unfold Q1O
  rw [hT x s,Q1]
  cases w1 with
  | inl s1 =>
   rcases hb x s _ h1 with q | q
   ·rw [q]; exact Q4z hT hb xs s1 w h
   ·rw [q]; exact Q4z hT hb xs s1 w h
  | inr v =>
   cases h
   obtain ⟨δ',q,q2⟩:=hb x s _ h1
   rw [q]
   exact ⟨δ',rfl,q2⟩
theorem Q5a {st:σ → List Sl} {s0:σ} {step:ι → σ → Option (σ ⊕ ρ)} {δb:ι → σ → List Sl} {rv:ρ → D} {ro:ρ → List Sl} {ok:σ → Option β} {kr:ρ → Option β} (hi:AP fi δ (xs.map e)) (hT:∀ x s,Xp T (e x) (st s) = some (δb x s)) (hb:∀ x s,SB as body (δb x s) (step x s) (Jm (fun s'=>.lp (st s')) (fun v=>.rt (rv v) (ro v)))) (hr:∀ v,∃ a,kr v = some a ∧ r a = .rt (rv v) (ro v)) (k:∀ s,SB as g' (st s) (ok s) r) (h0:δ = st s0:=by rfl):SB as (Xb (Q4F T fi body) g') δ ((Q4v step xs s0).bind (Jm ok kr)) r:=fun v hv=>by
 obtain ⟨w,hw,hv⟩:=Xw hv
 subst h0
 have q:=Q4z hT hb xs s0 w hw
 have e1:Q4F T fi body (st s0) = Q1O T body (xs.map e) (st s0):=by
  unfold Q4F
  rw [show fi (st s0) = some (xs.map e,st s0) from hi]
  rfl
 cases w with
 | inl s =>
  rw [Kr (e1.trans q)]
  exact k s v hv
 | inr v1 =>
  obtain ⟨a,h1,h2⟩:=hr v1
  have:a = v:=by
   have h3:kr v1 = some v:=hv
   rw [h1] at h3
   exact Qs.inj h3
  subst this
  rw [h2]
  obtain ⟨δ',q1,q2⟩:=q
  refine ⟨δ',?_,q2⟩
  unfold Xb
  rw [e1,q1]
  rfl
theorem Q2C {as:List Sl} {sg:List Bool} {m:Nat} {fr:Fr} {dv:β → D} {outs:β → List Sl} (h:SB (Yb as) g (as ++ Qy (m - sg.length) .no) o (fun v=>.rt (dv v) (outs v))) (ha:Q0B sg as = true:=by rfl):∀ v,o = some v → fnF sg m fr g as = some (dv v,outs v):=fun v hv=>by
 obtain ⟨δ',h1,h2⟩:=h v hv
 unfold fnF
 rw [if_pos ha,h1]
 show (Yb as δ').map _ = _
 rw [h2]
 rfl
end
end Z
namespace Z
open PySem PySem.Spec PyProof.Rows L2
structure Gd {α:Type} (e:α → D) (n:Nat):Prop where
 pl:∀ a,(e a).plain = true
 dp:∀ a,(e a).depth ≤ n
 eq:∀ a b,Jp (e a) (e b) = true ↔ a = b
theorem gI:Gd Q0 0:=⟨fun _=>rfl,fun _=>Jb _,fun a b=>by simp [Jp]⟩
theorem gB:Gd Qg 0:=⟨fun _=>rfl,fun _=>Jb _,fun a b=>by simp [Jp]⟩
theorem gS:Gd Q2 0:=⟨fun _=>rfl,fun _=>Jb _,fun a b=>by simp [Jp]⟩
section
variable {α β γ κ μ τ:Type} {e:α → D} {e':β → D} {e3:γ → D} {e4:κ → D} {e5:μ → D} {n n2 n3 n4 n5:Nat}
theorem Q3b (g:Gd e n):∀ xs:List α,Ju (xs.map e) = true
 | []=>rfl
 | x :: xs=>by
  show ((e x).plain && Ju (xs.map e)) = true
  rw [g.pl,Q3b g xs]; rfl
theorem Q2Y (g:Gd e n):∀ xs:List α,Jk (xs.map e) ≤ n
 | []=>Jh _
 | x :: xs=>by
  have:=Q2Y g xs
  have:=g.dp x
  simp only [Qq,Jk]
  omega
theorem Q5s (g:Gd e n):∀ xs ys:List α,PyData.eqvAll (xs.map e) (ys.map e) = true ↔ xs = ys
 | [],[]=>by simp [PyData.eqvAll]
 | [],y :: ys=>by simp [PyData.eqvAll]
 | x :: xs,[]=>by simp [PyData.eqvAll]
 | x :: xs,y :: ys=>by
  simp only [Qq,PyData.eqvAll,Q4,g.eq,Q5s g xs ys,List.cons.injEq]
theorem gLi (g:Gd e n):Gd (eLi e) (n + 1):=⟨fun xs=>Q3b g xs,fun xs=>by have:=Q2Y g xs; simp only [eLi,PyData.depth]; omega,fun xs ys=>by simp only [eLi,Jp]; exact Q5s g xs ys⟩
theorem gP2 (g:Gd e n) (h:Gd e' n2):Gd (eP2 e e') (max n n2 + 1):=⟨fun a=>by simp [eP2,PyData.plain,Ju,g.pl,h.pl],fun a=>by have:=g.dp a.1; have:=h.dp a.2; simp only [eP2,PyData.depth,Jk]; omega,fun a b=>by simp [eP2,Jp,PyData.eqvAll,g.eq,h.eq,Prod.ext_iff]⟩
theorem Q5k (g:Gd e n) (hn:n ≤ 64) (a:α):shp (e a) = true:=by
 unfold shp
 rw [g.pl,decide_eq_true (Jq (g.dp a) hn)]; rfl
theorem Q0h [DecidableEq α] (g:Gd e n) (a b:α) (hn:n ≤ 64:=by decide):bD eqD (e a) (e b) = some (.bool (decide (a = b))):=by
 unfold bD eqD
 rw [Q5k g hn,Q5k g hn]
 have:Jp (e a) (e b) = decide (a = b):=by
  rw [Bool.eq_iff_iff,g.eq,decide_eq_true_eq]
 simp [this]
theorem Q4a [DecidableEq α] (g:Gd e n) (a b:α) (hn:n ≤ 64:=by decide):bD neD (e a) (e b) = some (.bool (!decide (a = b))):=by
 unfold bD neD eqD
 rw [Q5k g hn,Q5k g hn]
 have:Jp (e a) (e b) = decide (a = b):=by
  rw [Bool.eq_iff_iff,g.eq,decide_eq_true_eq]
 simp [this]
theorem lt_i (a b:Int):bD ltD (.int a) (.int b) = some (.bool (decide (a < b))):=rfl
theorem Q5F (a b:Int):bD leD (.int a) (.int b) = some (.bool (decide (a ≤ b))):=rfl
def Q8g (a b:Int):Option Int:=if Q18 a || Q18 b then some (a * b) else none
theorem QaF (a b v:Int) (h:Q8g a b = some v):Yx (.int a) (.int b) = some (.int v):=by
 unfold Q8g at h
 split at h
 ·rename_i c
  cases h
  simp [Yx,Q3Y,c]
 ·cases h
theorem QbQ (a:Int):QaY (.int a) = some (.int (-a)):=rfl
def boI (b:Bool):Int:=if b then 1 else 0
theorem QbI (b:Bool):g1 Q98 [.bool b] = some (.int (boI b)):=rfl
def Q4j (a:Str):Option Int:=if a.length ≤ sizeLine then some (a.length:Int) else none
theorem Q82 (a:Str) (v:Int) (h:Q4j a = some v):g1 Q05 [.str a] = some (.int v):=by
 unfold Q4j at h
 show (if a.length ≤ sizeLine then some (Q0 a.length) else none) = _
 split at h
 ·rename_i c
  cases h
  exact if_pos c
 ·cases h
def Q23 (a b:List α):Option (List α):=if a.length + b.length ≤ sizeLine then some (a ++ b) else none
theorem Q2e (a b v:List α) (h:Q23 a b = some v):V7 (eLi e a) (eLi e b) = some (eLi e v):=by
 unfold Q23 at h
 unfold V7
 show (none:Option D).or (if (a.map e).length + (b.map e).length ≤ sizeLine then some (PyData.list (a.map e ++ b.map e)) else none) = _
 split at h
 ·rename_i c
  cases h
  rw [Q3,Q3,if_pos c,← List.map_append]; rfl
 ·cases h
def Q7v (xs:List α) (k:Int):Option (List α):=if decide (0 ≤ k) && decide (k < 2 ^ 62) && decide (xs.length * k.toNat ≤ sizeLine) then some (Qy k.toNat xs).flatten else none
theorem Q6Q (f:α → β) (k:Nat) (xs:List α):(Qy k (xs.map f)).flatten = (Qy k xs).flatten.map f:=by
 rw [List.map_flatten,List.map_replicate]
theorem Qa4 (xs:List α) (k:Int) (v:List α) (h:Q7v xs k = some v):Yx (eLi e xs) (.int k) = some (eLi e v):=by
 unfold Q7v at h
 unfold Yx
 show (none:Option D).or (if decide (0 ≤ k) && decide (k < 2 ^ 62) && decide ((xs.map e).length * k.toNat ≤ sizeLine) then some (PyData.list (Qy k.toNat (xs.map e)).flatten) else none) = _
 split at h
 ·rename_i c
  cases h
  rw [Q3,if_pos c,Q6Q]; rfl
 ·cases h
theorem Q86 (f:α → β) (xs:List α) (i:Int):atI (xs.map f) i = (atI xs i).map f:=by
 unfold atI
 rw [Q3]
 cases ixN xs.length i with
 | none=>rfl
 | some j=>simp
theorem Z6 (xs:List α) (i:Int) (v:α) (h:atI xs i = some v):Vi (eLi e xs) (.int i) = some (e v):=by
 show atI (xs.map e) i = _
 rw [Q86,h]; rfl
theorem QbU (x:D) (r:List D):Vi (.tuple (x :: r)) (.int 0) = some x:=by
 show atI (x :: r) 0 = some x
 exact atI_nat (j:=0) rfl
theorem Qbw (x y:D) (r:List D):Vi (.tuple (x :: y :: r)) (.int 1) = some y:=by
 show atI (x :: y :: r) 1 = some y
 exact atI_nat (j:=1) rfl
theorem ixp2 (x y z:D) (r:List D):Vi (.tuple (x :: y :: z :: r)) (.int 2) = some z:=by
 show atI (x :: y :: z :: r) 2 = some z
 exact atI_nat (j:=2) rfl
def sIx (z:Str) (i:Int):Option Str:=if z.length ≤ sizeLine then (atI z.cps.toList i).map fun c=>⟨#[c]⟩ else none
theorem Q9H (z:Str) (i:Int) (v:Str) (h:sIx z i = some v):Vi (.str z) (.int i) = some (.str v):=by
 unfold sIx at h
 show (if z.length ≤ sizeLine then (atI z.cps.toList i).map fun c=>Q2 ⟨#[c]⟩ else none) = _
 split at h
 ·rename_i c
  rw [if_pos c]
  obtain ⟨q,h1,rfl⟩:=W0 h
  rw [h1]; rfl
 ·cases h
theorem Q8B (f:α → β) (xs:List α) (lo hi:Option Int):Kd (xs.map f) lo hi = (Kd xs lo hi).map f:=by
 unfold Kd
 rw [Q3,List.map_take,List.map_drop]
theorem Q6C (xs:List α) (lo hi:Option Int):Q3l (eLi e xs) lo hi = some (eLi e (Kd xs lo hi)):=by
 show some (PyData.list (Kd (xs.map e) lo hi)) = _
 rw [Q8B]; rfl
def Q4V (z:Str) (lo hi:Option Int):Option Str:=if z.length ≤ sizeLine then some (cutS z lo hi) else none
theorem Q9L (z:Str) (lo hi:Option Int) (v:Str) (h:Q4V z lo hi = some v):Q3l (.str z) lo hi = some (.str v):=by
 unfold Q4V at h
 show (if z.length ≤ sizeLine then some (Q2 (cutS z lo hi)) else none) = _
 split at h
 ·rename_i c
  cases h
  exact if_pos c
 ·cases h
def Q4k (xs:List α):Int:=(xs.length:Int)
theorem Q4P (xs:List α):g1 Q05 [eLi e xs] = some (.int (Q4k xs)):=by
 show some (Q0 (xs.map e).length) = _
 rw [Q3]; rfl
theorem Qat (xs:List α):g1 Q05 [eTu e xs] = some (.int (Q4k xs)):=by
 show some (Q0 (xs.map e).length) = _
 rw [Q3]; rfl
theorem Q37:∀ xs:List Bool,W8 (xs.map Qg) = some xs
 | []=>rfl
 | b :: xs=>by
  show (W8 (xs.map Qg)).map (b :: ·) = _
  rw [Q37 xs]; rfl
theorem Q9N (xs:List Bool):g1 Q6P [eLi Qg xs] = some (.bool (xs.all id)):=by
 show (W8 (xs.map Qg)).map _ = _
 rw [Q37]; rfl
theorem QaZ (xs:List α):g1 Q8K [eLi e xs] = some (eTu e xs):=rfl
theorem Q5r (xs:List α):Q0p (eLi e xs) = some (xs.map e):=rfl
theorem Qbv (xs:List α):Q0p (eTu e xs) = some (xs.map e):=rfl
def chN (z:Str):List Str:=z.cps.toList.map fun c=>⟨#[c]⟩
theorem Qbc (z:Str):Q0p (.str z) = some ((chN z).map Q2):=by
 show some (z.cps.toList.map fun c=>Q2 ⟨#[c]⟩) = _
 unfold chN
 rw [List.map_map]; rfl
structure Sg {α:Type} (e:α → D):Prop where
 al:∀ a b,PySem.W.alike (e a) (e b) = true
structure Kg {α:Type} (e:α → D) (f:α → Key):Prop where
 k:∀ a,W1 (e a) = some (f a)
 d:∀ a,Q2N (f a) = e a
 i:∀ a b,f a = f b → a = b
variable {kf:α → Key}
variable {δ:List Sl} {fa:Fe} {o:Option γ} {r:γ → D × List Sl}
theorem Q7M {z:γ → D} {f:Fe} (h:VN f δ o r) (e:∀ x,(r x).1 = z x):VN f δ o (fun x=>(z x,(r x).2)):=fun x hx=>by
 rw [h x hx]
 show some (r x) = some (z x,(r x).2)
 rw [← e x]
theorem QbE {ga:Fb} {s:Bool} (h:TP ga δ s) {v:β} {r':β → Bool × List Sl} (e:(s,δ) = r' v):TN ga δ (some v) r':=fun y hy=>by
 cases hy
 exact (show ga δ = some (s,δ) from h).trans (by rw [e])
def Q31 (ns:List Int):Dk:=⟨Xz ns,Q20 ns,0⟩
def Q1K (k:Dk) (M:Int):Option (Int × Dk):=match Q2n [sDk k,.fz (.int M)] with
 | some (.int r,[.dk cs m n,.fz (.int M')])=>if M' = M then some (r,⟨cs,m,n⟩) else none
 | _=>none
theorem Q8j (k:Dk) (M:Int):∀ v,Q1K k M = some v → Q2n [sDk k,.fz (.int M)] = some (.int v.1,[sDk v.2,.fz (.int M)]):=fun v h=>by
 unfold Q1K at h
 split at h
 ·rename_i r cs m n M' e
  split at h
  ·rename_i c
   cases h
   subst c
   exact e
  ·cases h
 ·cases h
theorem Q7y (k:Dk) (M:Int) (hM:0 < M) (hM2:M < 2 ^ 30) (hc:k.cs.length ≤ 63):∃ r k',Q1K k M = some (r,k') ∧ 0 ≤ r ∧ r < M ∧ k'.cs.length ≤ 63:=by
 obtain ⟨r,cs',n',h1,h2,h3,h4⟩:=Q97 k.cs k.m k.n M hM hM2 hc
 refine ⟨r,⟨cs',k.m,n'⟩,?_,h1,h2,h3⟩
 unfold Q1K
 show (match Q2n [.dk k.cs k.m k.n,.fz (.int M)] with | some (.int r,[.dk cs m n,.fz (.int M')])=>if M' = M then some (r,(⟨cs,m,n⟩:Dk)) else none | _=>none) = _
 rw [h4]
 exact if_pos rfl
theorem Q8p {i j:Nat} {as:List Sl → Option (List Sl)} {g':Fg} {o:Option β} {r:β → Oc} {ns:List Int} (k:SB as g' (δ.set i (sDk (Q31 ns))) o r) (hj:δ[j]? = some (.scr ns):=by rfl) (hi:decide (i < δ.length) = true:=by rfl):SB as (Xb (Q4l i j) g') δ o r:=fun v hv=>by
 rw [Kr (δ1:=δ.set i (sDk (Q31 ns)))]
 ·exact k v hv
 ·unfold Q4l
  rw [hj]
  exact if_pos (of_decide_eq_true hi)
theorem rawB (o:Option Bool) (v:Bool) (h:o = some v):o.map Qg = some (.bool v):=by rw [h]; rfl
end
end Z
namespace Z
open PySem PySem.Spec PyProof.Rows L2
variable {α β:Type}
theorem Q34 (e:α → D) (e':β → D):∀ (xs:List α) (ys:List β),((xs.map e).zip (ys.map e')).map Q44 = (xs.zip ys).map (eP2 e e')
 | [],_=>rfl
 | _ :: _,[]=>rfl
 | x :: xs,y :: ys=>by
  show Q44 (e x,e' y) :: ((xs.map e).zip (ys.map e')).map Q44 = eP2 e e' (x,y) :: (xs.zip ys).map (eP2 e e')
  rw [Q34 e e' xs ys]
  rfl
theorem Q9a (e:α → D) (e':β → D) (xs:List α) (ys:List β):Q52 [eLi e xs,eLi e' ys] = some (eLi (eP2 e e') (xs.zip ys)):=congrArg (fun z=>some (PyData.list z)) (Q34 e e' xs ys)
end Z
namespace Z
open PySem PySem.Spec PyProof.Rows L2
end Z
namespace Z
open PySem PySem.Spec PyProof.Rows L2
end Z
namespace Z
open PySem PySem.Spec PyProof.Rows L2
variable {α β:Type} {e:α → D} {e':β → D} {kf:α → Key}
end Z
namespace Z
open PySem PySem.Spec PyProof.Rows L2
variable {α β:Type} {e:α → D} {e':β → D}

@[irreducible] def rngK (n:Int):List Int:=Q1h 0 n.toNat
theorem Q8R (n:Int):rngK n = Q1h 0 n.toNat:=by unfold rngK; rfl
theorem Q9i {j:Int} {δ:List Sl} {fr:List Sl → Option (List D × List Sl)} (h:AP fr δ [.int j]) (hj:V1 j = true:=by decide):AP (Q1f fr) δ ((rngK j).map Q0):=by
 rw [Q8R]
 exact Q3w h hj
end Z
namespace Z
open PySem PySem.Spec PyProof.Rows L2
section
variable {α β:Type}
structure Kx (e:α → D) (ke:α → NestedKey):Prop where
 nk:∀ a,Q07 (e a) = some (ke a)
 inj:∀ a b,ke a = ke b → a = b
 ok:∀ xs:List α,okB (xs.map e) = true
variable {e:α → D} {ke:α → NestedKey} [DecidableEq α]
end

end Z
namespace Z
open PySem PySem.Spec PyProof.Rows L2
end Z
namespace Z
open PySem PySem.Spec PyProof.Rows L2
end Z
namespace Z
open PySem PySem.Spec PyProof.Rows L2
end Z
namespace Z
open PySem PySem.Spec PyProof.Rows L2

end Z
namespace Z
open PySem PySem.Spec PyProof.Rows L2
end Z
namespace Z
open PySem PySem.Spec PyProof.Rows L2
end Z
namespace Z
open PySem PySem.Spec PyProof.Rows L2
def gd (g:List Sl → Bool) (f:List Sl → Option (D × List Sl)):List Sl → Option (D × List Sl):=fun δ=>if g δ = true then f δ else none
structure CF (K:PySem.W.Frag) (c f:Str):Prop where
 ex:∀ C,Vf K c C → Cls K C ∧ NoAttr K C f
structure Rc (X:Cx) (i:Nat) (o:Expr) (g:List Sl → Bool):Prop where
 ex:∃ t,PE X o t ∧ ∀ (Y:Fx) (F H:Hp) (δ:List Sl) (σ:L2.St) (A:Nat → List Addr),SR X.K Y F H δ σ A → g δ = true → ∀ (v:V) (Q:VK),σ[i]? = some (some v) → Q v H → t σ H Q
def gT:List Sl → Bool:=fun _=>true
section
variable {X:Cx} {pos:Pos}
theorem Nm.rc {i:Nat} {x:Str} {p:Pos} (n:Nm X i x):Rc X i (.Name x p) gT:=⟨_,n.pe,fun Y F H δ σ A S _ v Q e q=>⟨v,e,q⟩⟩
end
end Z
namespace Z
open PySem PySem.Spec PyProof.Rows L2
def GE (X:Cx) (σ σ':L2.St):Prop:=σ'.length = σ.length ∧ ∀ (i:Nat) (x:Str),X.N[i]? = some x → Vis X.env.scope x → σ'[i]? = σ[i]?
theorem GE.refl {X:Cx} (σ:L2.St):GE X σ σ:=⟨rfl,fun _ _ _ _=>rfl⟩
theorem GE.symm {X:Cx} {σ σ':L2.St} (h:GE X σ σ'):GE X σ' σ:=⟨h.1.symm,fun i x a b=>(h.2 i x a b).symm⟩
theorem Q3k {X:Cx} {pins:List (Addr × Obj)} {σ σ':L2.St} {H:Hp} {s:Shared} (I:L2.Inv X pins σ H s) (g:GE X σ σ'):L2.Inv X pins σ' H s:=by
 refine ⟨I.ok,I.os,I.bare,I.base,?_,I.cell,I.free,I.freeC,I.pin,I.hok,g.1.trans I.len⟩
 obtain ⟨m,h1,h2⟩:=I.loc
 refine ⟨m,h1,fun i x v e1 e2 e3=>h2 i x v e1 ?_ e3⟩
 rw [← g.2 i x e1 e3]
 exact e2
def Q6I (X:Cx) (D:Ends):Ends:={ nx:=fun σ2 H2=>∃ σ3,GE X σ2 σ3 ∧ D.nx σ3 H2,rt:=D.rt,bk:=fun σ2 H2=>∃ σ3,GE X σ2 σ3 ∧ D.bk σ3 H2,ct:=fun σ2 H2=>∃ σ3,GE X σ2 σ3 ∧ D.ct σ3 H2 }
def tsG (X:Cx) (t:TS):TS:=fun D σ H=>∃ σ1,GE X σ σ1 ∧ t (Q6I X D) σ1 H
theorem Q71 {X:Cx} {pins:List (Addr × Obj)} {D:Ends} {fl:Flow} {s:Shared} (h:L2.SP X pins (Q6I X D) fl s):L2.SP X pins D fl s:=by
 cases fl with
 | next=>obtain ⟨σ',H',I,σ3,g,q⟩:=h; exact ⟨σ3,H',Q3k I g,q⟩
 | brk=>obtain ⟨σ',H',I,σ3,g,q⟩:=h; exact ⟨σ3,H',Q3k I g,q⟩
 | cont=>obtain ⟨σ',H',I,σ3,g,q⟩:=h; exact ⟨σ3,H',Q3k I g,q⟩
 | ret u=>exact h
theorem Q9K {X:Cx} {st:List Stmt} {t:TS} (h:PSs X st t):PSs X st (tsG X t):=by
 refine ⟨fun pins s σ H D I hw=>?_⟩
 obtain ⟨σ1,g,hw⟩:=hw
 exact wpAny_mono (h.run pins s σ1 H _ (Q3k I g) hw) (fun fl s2 hs=>Q71 hs) (fun _ _ hs=>hs)
inductive Rs where
 | ok (d:D)
 | ex (c:Str)
inductive FrO where
 | f (fr:Fr)
 | o (c:Str) (sh:List (Str × Bool))
def Qb1 (K:PySem.W.Frag) (F H:Hp):List (Str × Bool) → List (Str × V) → List D → List Addr → Prop
 | [],[],[],L=>L = []
 | (f,false) :: sh,(g,v) :: fv,d :: ds,L=>g = f ∧ Rp K F v d ∧ Qb1 K F H sh fv ds L
 | (f,true) :: sh,(g,v) :: fv,d :: ds,L=>∃ q L',v = .ref q ∧ L = q :: L' ∧ g = f ∧ Kc K F H q d ∧ Qb1 K F H sh fv ds L'
 | _,_,_,_=>False
def Q9u (K:PySem.W.Frag) (F H:Hp) (fresh:Addr → Prop) (c:Str) (sh:List (Str × Bool)) (v:V) (d:D):Prop :=
 ∃ p dx C fvs ds L,v = .ref p ∧ d = .tuple ds ∧ Vf K c C ∧ H p = some (.ins C dx fvs) ∧ H dx = some (.own p) ∧ (p :: dx :: L).Nodup ∧ (∀ a ∈ p :: dx :: L,fresh a ∧ F a = none) ∧ Qb1 K F H sh fvs ds L
def Q9J (K:PySem.W.Frag) (Y:Fx) (fr:FrO) (F H:Hp) (A:Nat → List Addr) (v:V) (d:D):Prop :=
 match fr with
 | .f fr=>QbH K Y fr F H A v d
 | .o c sh=>Q9u K F H (fun a=>Y.H0 a = none) c sh v d
def Qbj (K:PySem.W.Frag) (A:Nat → List Addr) (fr:FrO) (H F' H':Hp) (v:V) (d:D):Prop :=
 match fr with
 | .f fr=>Ret K A fr H F' H' v d
 | .o c sh=>Q9u K F' H' (fun a=>H a = none) c sh v d
def Fx.args (n:Nat):Fx:=⟨Iom.of fun i=>decide (n ≤ i),fun _=>false,fun i=>decide (n ≤ i),fun _=>none,fun _=>none,[],fun _=>[],fun _ _=>rfl⟩
structure Q9f (A:Nat → List Addr) (mv:Nat → Bool) (N:Nat) (F H F' H':Hp):Prop where
 f:Same F F'
 nw:∀ a,F a = none → F' a ≠ none → H a = none ∨ ∃ j,mv j = true ∧ a ∈ A j
 kp:∀ a o,H a = some o → (∀ i,i < N → a ∉ A i) → H' a = some o
structure MvR (A A':Nat → List Addr) (mv:Nat → Bool) (H:Hp) (σ σ':L2.St):Prop where
 len:σ'.length = σ.length
 eq:∀ i,mv i = false → σ'[i]? = σ[i]? ∧ A' i = A i
 mv:∀ i a,mv i = true → a ∈ A' i → (∃ j,mv j = true ∧ a ∈ A j) ∨ H a = none
theorem MvR.same {A A':Nat → List Addr} {H:Hp} {σ σ':L2.St} (h:MvR A A' (fun _=>false) H σ σ'):σ' = σ ∧ A' = A :=
 ⟨List.ext_getElem? fun i=>(h.eq i rfl).1,funext fun i=>(h.eq i rfl).2⟩
def spX (K:PySem.W.Frag) (n m:Nat) (mv:Nat → Bool) (fr:FrO) (φ:List Sl → Option (Rs × List Sl)):Sp:=fun us H Q E =>
 ∃ (F:Hp) (as:List Sl) (A:Nat → List Addr) (τ:L2.St),us.length = n ∧ τ.length = m ∧ as.length = n + m ∧ SR K (Fx.args n) F H as (us.map some ++ τ) A ∧ ∃ r outs,φ as = some (r,outs) ∧
  ∀ F' H' σ' A',Q9f A mv (n + m) F H F' H' → MvR A A' mv H (us.map some ++ τ) σ' → SR K (Fx.args n) F' H' outs σ' A' →
   match r with
   | .ok d=>∀ v,Qbj K A fr H F' H' v d → Q v H'
   | .ex c=>∀ C,Vf K c C → E (.ref C) none H'
theorem Q90 {K:PySem.W.Frag} {n m:Nat} {mv} {fr:FrO} {φ} {us:List V} {H:Hp} {Q:VK} {E:XK} (h:spX K n m mv fr φ us H Q E):us.length = n:=by
 obtain ⟨F,as,A,τ,h1,_⟩:=h
 exact h1
inductive Ox where
 | o (o:Out)
 | ex (c:Str) (δ:List Sl)
def Q3a (X:Cx) (Y:Fx) (fr:FrO) (W:WX) (F:Hp) (D:Ends):Ox → Prop
 | .o (.nx δ')=>∀ σ' F' H' A',Same F F' → SR X.K Y F' H' δ' σ' A' → D.nx σ' H'
 | .o (.ct δ')=>∀ σ' F' H' A',Same F F' → SR X.K Y F' H' δ' σ' A' → D.ct σ' H'
 | .o (.rt d δ')=>∀ v σ' F' H' A',Same F F' → SR X.K Y F' H' δ' σ' A' → Q9J X.K Y fr F' H' A' v d → D.rt v H'
 | .ex c δ'=>∀ σ0 σ' F' H' A' C,Same F F' → GE X σ0 σ' → SR X.K Y F' H' δ' σ' A' → Vf X.K c C → W (.ref C) none σ0 H'
def SX (X:Cx) (W:WX) (io:Iom) (vt:Nat → Bool) (fr:FrO) (st:Stmt) (g:List Sl → Option Ox):Prop :=
 ∃ t,PS X st t ∧ ∀ (Y:Fx) (F H:Hp) (δ:List Sl) (σ:L2.St) (A:Nat → List Addr),Y.io = io → (∀ i,vt i = true → Y.vt i = true ∧ Y.lt i = false) → SR X.K Y F H δ σ A → ∀ (o:Ox),g δ = some o → ∀ D:Ends,Q3a X Y fr W F D o → t D σ H
def BX (X:Cx) (W:WX) (io:Iom) (vt:Nat → Bool) (fr:FrO) (st:List Stmt) (g:List Sl → Option Ox):Prop :=
 ∃ t,PSs X st t ∧ ∀ (Y:Fx) (F H:Hp) (δ:List Sl) (σ:L2.St) (A:Nat → List Addr),Y.io = io → (∀ i,vt i = true → Y.vt i = true ∧ Y.lt i = false) → SR X.K Y F H δ σ A → ∀ (o:Ox),g δ = some o → ∀ D:Ends,Q3a X Y fr W F D o → t D σ H
theorem Q3a.mono {X:Cx} {Y:Fx} {fr:FrO} {W:WX} {F F':Hp} {D:Ends} {o:Ox} (h:Q3a X Y fr W F D o) (s:Same F F'):Q3a X Y fr W F' D o:=by
 cases o with
 | o o =>
  cases o with
  | nx δ=>exact fun σ' F1 H' A' s1=>h σ' F1 H' A' (s.trans s1)
  | ct δ=>exact fun σ' F1 H' A' s1=>h σ' F1 H' A' (s.trans s1)
  | rt d δ=>exact fun v σ' F1 H' A' s1=>h v σ' F1 H' A' (s.trans s1)
 | ex c δ=>exact fun σ0 σ' F1 H' A' C s1=>h σ0 σ' F1 H' A' C (s.trans s1)
def xS (g:List Sl → Option Out):List Sl → Option Ox:=fun δ=>(g δ).bind fun o=>match o with
 | .rt _ _=>none
 | o=>some (.o o)
def xR (g:List Sl → Option Out):List Sl → Option Ox:=fun δ=>(g δ).map .o
def Jz (g g':List Sl → Option Ox):List Sl → Option Ox:=fun δ=>(g δ).bind fun o=>match o with
 | .o (.nx δ1)=>g' δ1
 | x=>some x
section
variable {X:Cx} {W:WX} {io:Iom} {vt:Nat → Bool} {fr:FrO} {st:Stmt} {rest:List Stmt} {pos:Pos} {g g':List Sl → Option Ox}
theorem Q1M {g0:List Sl → Option Out} (h:SV X io .n st g0):SX X W io vt fr st (xS g0):=by
 obtain ⟨t,p,q⟩:=h
 refine ⟨t,p,fun Y F H δ σ A hY hv S o e D k=>?_⟩
 unfold xS at e
 cases e1:g0 δ with
 | none=>rw [e1] at e; cases e
 | some o1 =>
  rw [e1] at e
  refine q Y F H δ σ A hY S o1 e1 D ?_
  cases o1 with
  | nx δ1=>cases e; exact k
  | ct δ1=>cases e; exact k
  | rt d δ1=>cases e
theorem Qax {f0:Fr} {g0:List Sl → Option Out} (h:SV X io f0 st g0):SX X W io vt (.f f0) st (xR g0):=by
 obtain ⟨t,p,q⟩:=h
 refine ⟨t,p,fun Y F H δ σ A hY hv S o e D k=>?_⟩
 unfold xR at e
 cases e1:g0 δ with
 | none=>rw [e1] at e; cases e
 | some o1 =>
  rw [e1] at e
  cases e
  refine q Y F H δ σ A hY S o1 e1 D ?_
  cases o1 with
  | nx δ1=>exact k
  | ct δ1=>exact k
  | rt d δ1=>exact k
theorem Xd:BX X W io vt fr [] (xS Xe):=by
 refine ⟨_,pss_nil,fun Y F H δ σ A _ _ S o e D k=>?_⟩
 cases e
 exact k σ F H A (Same.refl _) S
theorem Q5f {vs:List Nat} (hio:vs.all (fun i=>!io i) = true):BX X W io vt fr [] (xS (Q1G vs)):=by
 refine ⟨_,pss_nil,fun Y F H δ σ A hY _ S o e D k=>?_⟩
 obtain ⟨A',S'⟩:=S.wipeAll (vs:=vs) fun i hi=>by
  rw [hY]
  have:=Qh.mp hio i hi
  simpa using this
 cases e
 exact k σ F H A' (Same.refl _) S'
theorem X1 (h1:SX X W io vt fr st g) (h2:BX X W io vt fr rest g'):BX X W io vt fr (st :: rest) (Jz g g'):=by
 obtain ⟨t,p,q⟩:=h1
 obtain ⟨t2,p2,q2⟩:=h2
 refine ⟨_,pss_cons p p2,fun Y F H δ σ A hY hv S o e D k=>?_⟩
 unfold Jz at e
 cases e1:g δ with
 | none=>rw [e1] at e; cases e
 | some o1 =>
  rw [e1] at e
  refine q Y F H δ σ A hY hv S o1 e1 _ ?_
  cases o1 with
  | o o2 =>
   cases o2 with
   | nx δ1=>exact fun σ' F' H' A' s S'=>q2 Y F' H' δ1 σ' A' hY hv S' o e D (k.mono s)
   | ct δ1=>cases e; exact k
   | rt d δ1=>cases e; exact k
  | ex c δ1=>cases e; exact k
def Vo (c:List Sl → Option (Bool × List Sl)) (g g':List Sl → Option Ox):List Sl → Option Ox:=fun δ=>(c δ).bind fun p=>match p.1 with | true=>g p.2 | false=>g' p.2
theorem V8 {c:Expr} {a b:List Stmt} {gc} {M:List Nat} (hc:TV X c gc M) (ha:BX X W io vt fr a g) (hb:BX X W io vt fr b g'):SX X W io vt fr (.If c a b pos) (Vo gc g g'):=by
 obtain ⟨t,p,q⟩:=hc
 obtain ⟨ta,pa,qa⟩:=ha
 obtain ⟨tb,pb,qb⟩:=hb
 refine ⟨_,ps_if p pa pb,fun Y F H δ σ A hY hv S o e D k=>?_⟩
 unfold Vo at e
 cases e1:gc δ with
 | none=>rw [e1] at e; cases e
 | some w =>
  obtain ⟨b0,δ1⟩:=w
  rw [e1] at e
  simp only [Q1] at e
  refine q Y F H δ σ A S b0 δ1 e1 _ fun F1 H1 st S1=>?_
  cases b0 with
  | true =>
   rw [if_pos rfl]
   exact qa Y F1 H1 δ1 σ A hY hv S1 o e D (k.mono st.f)
  | false =>
   rw [if_neg Jr]
   exact qb Y F1 H1 δ1 σ A hY hv S1 o e D (k.mono st.f)
end
end Z
namespace Z
open PySem PySem.Spec PyProof.Rows L2
def Q8A:Sl → Bool
 | .no=>true
 | _=>false
def Qbd (a b:Sl):Bool:=match a with
 | .ob c fs=>match b with
  | .ob c' fs'=>(c == c') && (fs == fs')
  | _=>false
 | _=>Vu b
def Vj:Nat → List Sl → List Sl → Option (List Sl)
 | _,[],_=>some []
 | 0,_ :: r,b :: s=>if Q8A b then none else (Vj 0 r s).map (b :: ·)
 | n + 1,a :: r,b :: s=>if Yo a then if Qbd a b then (Vj n r s).map (b :: ·) else none else (Vj n r s).map (a :: ·)
 | _,_ :: _,[]=>none
def Q5u (n:Nat) (as:List Sl):Bool:=as.all fun s=>match s with
 | .ob _ fs=>fs.all fun q=>decide (n ≤ q.2) && decide (q.2 < as.length)
 | _=>true
def okX (sg:List Bool) (n:Nat) (as:List Sl):Bool:=decide (as.length = sg.length) && decide ((as.take n).map Yo = sg.take n) && Q5u n as
def Zd (k t:Nat) (vl:List Nat):List Sl:=(Jn (t - k)).map fun j=>if vl.contains (k + j) then .ab else .no
def Q2l (n:Nat) (as δ:List Sl):Option (List Sl):=(Vj n as δ).bind fun o=>if Q5u n o then some o else none
def fnX (sg:List Bool) (n t:Nat) (vl:List Nat) (fr:FrO) (g:List Sl → Option Ox):List Sl → Option (Rs × List Sl):=fun as =>
 if okX sg n as then
  match g (as ++ Zd sg.length t vl) with
  | some (.o (.rt d δ))=>(Q2l n as δ).map fun o=>(.ok d,o)
  | some (.o (.nx δ))=>match fr with
   | .f .n=>(Q2l n as δ).map fun o=>(.ok .none,o)
   | _=>none
  | some (.ex c δ)=>(Q2l n as δ).map fun o=>(.ex c,o)
  | _=>none
 else none
theorem Vp:∀ {n:Nat} {as δ o:List Sl},Vj n as δ = some o → o.length = as.length
 | 0,[],_,_,h=>by cases h; rfl
 | _ + 1,[],_,_,h=>by cases h; rfl
 | 0,a :: r,b :: s,o,h=>by
  unfold Vj at h
  split at h
  ·cases h
  ·obtain ⟨z,e,rfl⟩:=Qa.mp h
   exact congrArg (· + 1) (Vp e)
 | n + 1,a :: r,b :: s,o,h=>by
  unfold Vj at h
  split at h
  ·split at h
   ·obtain ⟨z,e,rfl⟩:=Qa.mp h
    exact congrArg (· + 1) (Vp e)
   ·cases h
  ·obtain ⟨z,e,rfl⟩:=Qa.mp h
   exact congrArg (· + 1) (Vp e)
 | 0,_ :: _,[],_,h=>by cases h
 | _ + 1,_ :: _,[],_,h=>by cases h
theorem Vm:∀ {n:Nat} {as δ o:List Sl} {i:Nat} {a:Sl},Vj n as δ = some o → as[i]? = some a →
  (i < n ∧ Yo a = true ∧ ∃ b,δ[i]? = some b ∧ Qbd a b = true ∧ o[i]? = some b) ∨ (i < n ∧ Yo a = false ∧ o[i]? = some a) ∨ (n ≤ i ∧ ∃ b,δ[i]? = some b ∧ Q8A b = false ∧ o[i]? = some b)
 | 0,[],_,_,_,_,_,e=>by simp at e
 | _ + 1,[],_,_,_,_,_,e=>by simp at e
 | 0,a :: r,b :: s,o,i,c,h,e=>by
  unfold Vj at h
  split at h
  ·cases h
  ·rename_i hb
   obtain ⟨z,e1,rfl⟩:=Qa.mp h
   cases i with
   | zero=>exact .inr (.inr ⟨Jb _,b,rfl,by simpa using hb,rfl⟩)
   | succ i =>
    rcases Vm (i:=i) e1 e with ⟨h1,_⟩ | ⟨h1,_⟩ | ⟨_,h2⟩
    ·omega
    ·omega
    ·exact .inr (.inr ⟨Jh _,h2⟩)
 | n + 1,a :: r,b :: s,o,i,c,h,e=>by
  unfold Vj at h
  split at h
  ·rename_i ha
   split at h
   ·rename_i hb
    obtain ⟨z,e1,rfl⟩:=Qa.mp h
    cases i with
    | zero=>cases e; exact .inl ⟨by omega,ha,b,rfl,hb,rfl⟩
    | succ i =>
     rcases Vm (i:=i) e1 e with ⟨h1,h2⟩ | ⟨h1,h2⟩ | ⟨h1,h2⟩
     ·exact .inl ⟨by omega,h2⟩
     ·exact .inr (.inl ⟨by omega,h2⟩)
     ·exact .inr (.inr ⟨by omega,h2⟩)
   ·cases h
  ·rename_i ha
   obtain ⟨z,e1,rfl⟩:=Qa.mp h
   cases i with
   | zero=>cases e; exact .inr (.inl ⟨by omega,by simpa using ha,rfl⟩)
   | succ i =>
    rcases Vm (i:=i) e1 e with ⟨h1,h2⟩ | ⟨h1,h2⟩ | ⟨h1,h2⟩
    ·exact .inl ⟨by omega,h2⟩
    ·exact .inr (.inl ⟨by omega,h2⟩)
    ·exact .inr (.inr ⟨by omega,h2⟩)
 | 0,_ :: _,[],_,_,_,h,_=>by cases h
 | _ + 1,_ :: _,[],_,_,_,h,_=>by cases h
theorem Q3S {n:Nat} {as:List Sl} (h:Q5u n as = true) {i:Nat} {c:Str} {fs:List (Str × Nat)} (e:as[i]? = some (Sl.ob c fs)):∀ q ∈ fs,n ≤ q.2 ∧ q.2 < as.length:=fun q hq=>by
 have:=Qh.mp h _ (Jd e)
 have:=Qh.mp this q hq
 simpa using this
open Classical in
/-- the heap of the entry,without what may be given anew -/
noncomputable def Q3m (B:Nat → List Addr) (mv:Nat → Bool) (H:Hp):Hp:=fun a=>if ∃ j,mv j = true ∧ a ∈ B j then none else H a
theorem Q66 {B:Nat → List Addr} {mv:Nat → Bool} {H:Hp} {a:Addr} {o:HO} (h:Q3m B mv H a = some o):H a = some o ∧ ¬ ∃ j,mv j = true ∧ a ∈ B j:=by
 unfold Q3m at h
 split at h
 ·cases h
 ·rename_i c; exact ⟨h,c⟩
theorem Q00 {B:Nat → List Addr} {mv:Nat → Bool} {H:Hp} {a:Addr} (h:Q3m B mv H a = none):(∃ j,mv j = true ∧ a ∈ B j) ∨ H a = none:=by
 unfold Q3m at h
 split at h
 ·rename_i c; exact .inl c
 ·exact .inr h
theorem Q8e {B:Nat → List Addr} {mv:Nat → Bool} {H:Hp} {a:Addr} {o:HO} (h:H a = some o) (n:¬ ∃ j,mv j = true ∧ a ∈ B j):Q3m B mv H a = some o:=by
 unfold Q3m
 rw [if_neg n]
 exact h
theorem Q8o {B:Nat → List Addr} {mv:Nat → Bool} {H:Hp} {a:Addr} {j:Nat} (h:mv j = true) (m:a ∈ B j):Q3m B mv H a = none:=by
 unfold Q3m
 rw [if_pos ⟨j,h,m⟩]
noncomputable def Fx.body (sg:List Bool) (n:Nat) (vl:List Nat) (mv:Nat → Bool) (H F:Hp) (σ:L2.St) (B:Nat → List Addr):Fx :=
 ⟨⟨fun i=>Y7 sg i || vl.contains i,fun i=>mv i || vl.contains i⟩,fun i=>Y7 sg i && !(mv i || vl.contains i),fun i=>(decide (n ≤ i) && decide (i < sg.length)) || vl.contains i,Q3m B mv H,F,σ,B,fun i h=>by
  have h:(mv i || vl.contains i) = true:=h
  rw [h]; simp⟩
def stX (us:List V) (τ:L2.St) (t:Nat):L2.St:=us.map some ++ τ ++ Qy (t - (us.length + τ.length)) none
structure XOk (sg:List Bool) (n m t:Nat) (vl:List Nat) (mv:Nat → Bool):Prop where
 len:sg.length = n + m
 le:n + m ≤ t
 vs:∀ i,n ≤ i → i < n + m → Y7 sg i = true
 vl:∀ i,vl.contains i = true → n + m ≤ i ∧ i < t
 mv:∀ i,mv i = true → n ≤ i ∧ i < n + m
section
variable {K:PySem.W.Frag} {F H F' H':Hp} {as:List Sl} {us:List V} {τ:L2.St} {A:Nat → List Addr} {sg:List Bool} {n m t:Nat} {vl:List Nat} {mv:Nat → Bool}
theorem Q1U (h:okX sg n as = true) (hk:XOk sg n m t vl mv) {i:Nat} {a:Sl} (e:as[i]? = some a) (hi:i < n):Y7 sg i = Yo a:=by
 unfold okX at h
 simp only [Q4,decide_eq_true_eq] at h
 have:=congrArg (fun l=>l[i]?) h.1.2
 simp only [Qd,List.getElem?_take,if_pos hi,e,Qx] at this
 unfold Y7
 rw [Jc,← this]
 rfl
theorem Q3i {i:Nat} (h:Y7 sg i = true):i < sg.length:=by
 cases Nat.lt_or_ge i sg.length with
 | inl h=>exact h
 | inr c =>
  unfold Y7 at h
  rw [Jc,Qn c] at h
  cases h
theorem Q1d {k:Nat} {i:Nat} {s:Sl} (h:(Zd k t vl)[i]? = some s):s = .ab ∧ vl.contains (k + i) = true ∨ s = .no ∧ vl.contains (k + i) = false:=by
 unfold Zd at h
 rw [Qd] at h
 cases e:(Jn (t - k))[i]? with
 | none=>rw [e] at h; cases h
 | some j =>
  rw [e] at h
  have:j = i:=by
   rw [List.getElem?_range (by
    have:=(Q5.mp e).1
    rwa [List.length_range] at this)] at e
   exact (Qs.inj e).symm
  subst this
  cases c:vl.contains (k + j) with
  | true=>simp only [Qx,c] at h; cases h; exact .inl ⟨rfl,rfl⟩
  | false=>simp only [Qx,c] at h; cases h; exact .inr ⟨rfl,rfl⟩
theorem Zx {i:Nat} (hi:i < us.length + τ.length):(stX us τ t)[i]? = (us.map some ++ τ)[i]?:=by
 unfold stX
 rw [Q9 (by rw [Qc,Q3]; exact hi)]
theorem Q7Y {fs:List (Str × Nat)} (h:∀ q ∈ fs,q.2 < us.length + τ.length):Q0r (stX us τ t) fs = Q0r (us.map some ++ τ) fs:=Q10 fun q hq=>Zx (h q hq)
theorem SR.entryX (S:SR K (Fx.args n) F H as (us.map some ++ τ) A) (hk:XOk sg n m t vl mv) (hu:us.length = n) (hτ:τ.length = m) (ha:as.length = n + m) (h:okX sg n as = true) :
  SR K (Fx.body sg n vl mv H F (stX us τ t) A) F H (as ++ Zd sg.length t vl) (stX us τ t) A:=by
 have ob:Q5u n as = true:=by
  unfold okX at h
  simp only [Q4] at h
  exact h.2
 have hsl:=hk.len
 have hle:=hk.le
 have nul:∀ i,n + m ≤ i → A i = []:=fun i hi=>S.out i (Qn (by omega))
 have lf:(Zd sg.length t vl).length = t - sg.length:=by unfold Zd; rw [Q3,List.length_range]
 have ls:(stX us τ t).length = t:=by
  unfold stX
  rw [Qc,Qc,Q3,Js]
  omega
 refine ⟨?_,fun i s e=>?_,fun i e=>?_,S.dis,S.hid,fun i a hia hi=>?_,S.sub,fun i _=>⟨rfl,rfl⟩,fun i hi=>trivial,fun a o e _=>(Q66 e).1,fun a e hn=>absurd e hn,Same.refl _,fun i hi=>?_,fun i c fs e=>?_,fun j hj e=>?_⟩
 ·rw [ls,Qc,lf]
  omega
 ·by_cases c:i < as.length
  ·rw [Q9 c] at e
   rw [Zx (by omega)]
   exact S.slot i s e
  ·rw [Qo (by omega)] at e
   have ai:A i = []:=nul i (by omega)
   have iv:jn (stX us τ t)[i]? = none:=by
    unfold stX
    rw [Qo (by rw [Qc,Q3]; omega),Jo]
    split <;> rfl
   rcases Q1d e with ⟨rfl,_⟩ | ⟨rfl,_⟩
   ·exact ⟨ai,iv⟩
   ·exact ai
 ·have:n + m ≤ i:=by
   have:=Qv.mp e
   rw [Qc] at this
   omega
  exact nul i this
 ·by_cases c:i < n + m
  ·have nvl:vl.contains i = false:=by
    cases q:vl.contains i with
    | false=>rfl
    | true=>have:=(hk.vl i q).1; omega
   have hi:(Y7 sg i && !(mv i || vl.contains i)) = false:=hi
   rw [nvl,Bool.or_false,Bool.and_eq_false_iff] at hi
   rcases hi with hi | hi
   ·have cn:i < n:=by
     apply Nat.lt_of_not_le
     intro z
     rw [hk.vs i z c] at hi
     cases hi
    obtain ⟨s,es⟩:∃ s,as[i]? = some s:=⟨_,Q6 (by omega)⟩
    rw [Q1U h hk es cn] at hi
    rw [Kw (S.slot i s es) hi] at hia
    simp at hia
   ·exact Q8o (j:=i) (by simpa using hi) hia
  ·rw [nul i (by omega)] at hia
   simp at hia
 ·show (Y7 sg i || vl.contains i) = true
  rcases hi with hi | hi
  ·have hi:(Y7 sg i && !(mv i || vl.contains i)) = true:=hi
   rw [Q4] at hi
   rw [hi.1,Bool.true_or]
  ·have hi:((decide (n ≤ i) && decide (i < sg.length)) || vl.contains i) = true:=hi
   rw [J3,Q4,decide_eq_true_eq,decide_eq_true_eq] at hi
   rcases hi with hi | hi
   ·rw [hk.vs i hi.1 (by omega),Bool.true_or]
   ·rw [hi,Bool.or_true]
 ·by_cases c0:i < as.length
  ·rw [Q9 c0] at e
   obtain ⟨h1,h2⟩:=S.ob i c fs e
   have hq:=Q3S ob e
   refine ⟨fun q hq'=>?_,fun p C dx fvs e1 e2=>?_⟩
   ·show ((decide (n ≤ q.2) && decide (q.2 < sg.length)) || vl.contains q.2) = true
    rw [decide_eq_true (hq q hq').1,decide_eq_true (show q.2 < sg.length by have:=(hq q hq').2; omega)]
    rfl
   ·rw [Zx (by omega)] at e1
    rw [Q7Y fun q hq'=>by have:=(hq q hq').2; omega]
    exact h2 p C dx fvs e1 e2
  ·rw [Qo (by omega)] at e
   rcases Q1d e with ⟨z,_⟩ | ⟨z,_⟩ <;> cases z
 ·have hj:(Y7 sg j || vl.contains j) = true:=hj
  rw [J3] at hj
  by_cases c:j < as.length
  ·rw [Q9 c] at e
   by_cases cn:n ≤ j
   ·exact S.vno j (decide_eq_true cn) e
   ·rcases hj with hj | hj
    ·rw [Q1U h hk e (by omega)] at hj
     cases hj
    ·have:=(hk.vl j hj).1
     omega
  ·rw [Qo (by omega)] at e
   rcases hj with hj | hj
   ·have:=Q3i hj
    omega
   ·rcases Q1d e with ⟨z,_⟩ | ⟨_,z⟩
    ·cases z
    ·rw [show sg.length + (j - as.length) = j by omega,hj] at z
     cases z
theorem SR.leaveX {δ' outs:List Sl} {σ':L2.St} {A':Nat → List Addr} (S:SR K (Fx.args n) F H as (us.map some ++ τ) A) (hk:XOk sg n m t vl mv) (hu:us.length = n) (hτ:τ.length = m) (ha:as.length = n + m) (h:okX sg n as = true)
  (S':SR K (Fx.body sg n vl mv H F (stX us τ t) A) F' H' δ' σ' A') (hm:Q2l n as δ' = some outs) :
  ∃ σ'' A'',Q9f A mv (n + m) F H F' H' ∧ MvR A A'' mv H (us.map some ++ τ) σ'' ∧ SR K (Fx.args n) F' H' outs σ'' A'':=by
 unfold Q2l at hm
 obtain ⟨o1,hm,ho⟩:=Qi.mp hm
 split at ho
 case isFalse=>cases ho
 rename_i hob
 cases ho
 have hsl:=hk.len
 have lo:=Vp hm
 have fixed:∀ i,Y7 sg i = true → mv i = false → σ'[i]? = (stX us τ t)[i]? ∧ A' i = A i:=fun i h1 h2=>S'.fix i (by
  have nvl:vl.contains i = false:=by
   cases q:vl.contains i with
   | false=>rfl
   | true=>have:=(hk.vl i q).1; have:=Q3i h1; omega
  show (Y7 sg i && !(mv i || vl.contains i)) = true; rw [h1,h2,nvl]; rfl)
 have nul:∀ i,n + m ≤ i → A i = []:=fun i hi=>S.out i (Qn (by omega))
 have nmv:∀ i,i < n → mv i = false:=fun i hi=>by
  cases c:mv i with
  | false=>rfl
  | true=>have:=(hk.mv i c).1; omega
 let σ'':L2.St:=us.map some ++ ((σ'.drop n).take m)
 let A'':Nat → List Addr:=fun i=>if i < n then A i else if i < n + m then A' i else []
 have lδ:n + m ≤ δ'.length:=by
  have:∀ {k:Nat} {as δ o:List Sl},Vj k as δ = some o → as.length ≤ δ.length:=by
   intro k as
   induction as generalizing k with
   | nil=>intro δ o _; exact Jh _
   | cons a r ih =>
    intro δ o h
    cases δ with
    | nil=>cases k <;> cases h
    | cons b s =>
     cases k with
     | zero =>
      unfold Vj at h
      split at h
      ·cases h
      ·obtain ⟨z,e,_⟩:=Qa.mp h
       exact Nat.succ_le_succ (ih e)
     | succ k =>
      unfold Vj at h
      split at h
      ·split at h
       ·obtain ⟨z,e,_⟩:=Qa.mp h
        exact Nat.succ_le_succ (ih e)
       ·cases h
      ·obtain ⟨z,e,_⟩:=Qa.mp h
       exact Nat.succ_le_succ (ih e)
  rw [← ha]
  exact this hm
 have lσ:n + m ≤ σ'.length:=by rw [← S'.len]; exact lδ
 have σv:∀ i,n ≤ i → i < n + m → σ''[i]? = σ'[i]?:=fun i h1 h2=>by
  show (us.map some ++ ((σ'.drop n).take m))[i]? = _
  rw [Qo (by rw [Q3]; omega),List.getElem?_take,List.getElem?_drop,Q3,if_pos (by omega),show n + (i - us.length) = i by omega]
 have σu:∀ i,i < n → σ''[i]? = (us.map some ++ τ)[i]?:=fun i h1=>by
  show (us.map some ++ ((σ'.drop n).take m))[i]? = _
  rw [Q9 (by rw [Q3]; omega),Q9 (by rw [Q3]; omega)]
 have l'':σ''.length = n + m:=by
  show (us.map some ++ ((σ'.drop n).take m)).length = _
  rw [Qc,Q3,List.length_take,List.length_drop]
  omega
 have Ain:∀ i a,a ∈ A'' i → a ∈ A' i:=fun i a z=>by
  have z:a ∈ (if i < n then A i else if i < n + m then A' i else []):=z
  split at z
  ·rename_i c
   obtain ⟨s,es⟩:∃ s,as[i]? = some s:=⟨_,Q6 (by omega)⟩
   cases q:Yo s with
   | false=>rw [Kw (S.slot i s es) q] at z; simp at z
   | true=>rw [(fixed i (by rw [Q1U h hk es c]; exact q) (nmv i c)).2]; exact z
  ·split at z
   ·exact z
   ·simp at z
 refine ⟨σ'',A'',⟨S'.f0,fun a e hn=>(Q00 (S'.nw a e hn)).symm,fun a o e hn=>?_⟩,⟨by rw [l'',Qc,Q3]; omega,fun i hi=>?_,fun i a hi hia=>?_⟩,
  ⟨by rw [lo,l'',ha],fun i s e=>?_,fun i e=>?_,fun i j a h1 h2=>S'.dis i j a (Ain i a h1) (Ain j a h2),fun i a h1=>S'.hid i a (Ain i a h1),fun _ _ _ _=>rfl,S'.sub,fun _ z=>(by cases z),fun _ _=>trivial,fun _ _ z=>(by cases z),fun _ _ _=>rfl,fun _ _ z=>(by cases z),fun i z=>z.elim (fun z=>(by cases z)) id,fun i c fs e=>?_,fun j hj e=>?_⟩⟩
 ·refine S'.kp a o (Q8e e fun ⟨j,h1,h2⟩=>hn j (hk.mv j h1).2 h2) fun i hi=>hn i ?_
  have hi:(Y7 sg i && !(mv i || vl.contains i)) = true:=hi
  rw [Q4] at hi
  have:=Q3i hi.1
  omega
 ·by_cases c:i < n
  ·exact ⟨σu i c,if_pos c⟩
  ·by_cases c2:i < n + m
   ·obtain ⟨f1,f2⟩:=fixed i (hk.vs i (by omega) c2) hi
    refine ⟨?_,?_⟩
    ·rw [σv i (by omega) c2,f1,Zx (by omega)]
    ·show (if i < n then A i else if i < n + m then A' i else []) = _
     rw [if_neg c,if_pos c2,f2]
   ·refine ⟨?_,?_⟩
    ·rw [Qn (by omega),Qn (by rw [Qc,Q3]; omega)]
    ·show (if i < n then A i else if i < n + m then A' i else []) = _
     rw [if_neg c,if_neg c2,nul i (by omega)]
 ·have:=Ain i a hia
  exact Q00 (S'.new i a this (by show (Y7 sg i && !(mv i || vl.contains i)) = false; rw [hi]; simp))
 ·have hi:i < as.length:=by rw [← lo]; exact (Q5.mp e).1
  obtain ⟨a,ea⟩:∃ a,as[i]? = some a:=⟨_,Q6 hi⟩
  rcases Vm hm ea with ⟨h1,h2,b,h3,h4,h5⟩ | ⟨h1,h2,h3⟩ | ⟨h1,b,h2,h3,h4⟩
  ·rw [e] at h5
   cases h5
   obtain ⟨f1,f2⟩:=fixed i (by rw [Q1U h hk ea h1]; exact h2) (nmv i h1)
   have q:=S'.slot i s h3
   rw [f1,f2,Zx (by omega)] at q
   rw [σu i h1,show A'' i = A i from if_pos h1]
   exact q
  ·rw [e] at h3
   cases h3
   have q:=S.slot i s ea
   have nA:=Kw q h2
   rw [σu i h1,show A'' i = A i from if_pos h1]
   exact q.mono S'.f0 fun a ha=>by rw [nA] at ha; simp at ha
  ·rw [e] at h4
   cases h4
   rw [σv i h1 (by omega),show A'' i = A' i from (if_neg (by omega)).trans (if_pos (by omega))]
   exact S'.slot i s h2
 ·have hi:n + m ≤ i:=by
   have:=Qv.mp e
   omega
  exact (if_neg (by omega)).trans (if_neg (by omega))
 ·have hi:i < as.length:=by rw [← lo]; exact (Q5.mp e).1
  have hin:=Q3S hob e
  obtain ⟨a,ea⟩:∃ a,as[i]? = some a:=⟨_,Q6 hi⟩
  have key:δ'[i]? = some (Sl.ob c fs) ∧ jn σ''[i]? = jn σ'[i]?:=by
   rcases Vm hm ea with ⟨h1,h2,b,h3,h4,h5⟩ | ⟨h1,h2,h3⟩ | ⟨h1,b,h2,h3,h4⟩
   ·rw [e] at h5
    cases h5
    obtain ⟨f1,f2⟩:=fixed i (by rw [Q1U h hk ea h1]; exact h2) (nmv i h1)
    exact ⟨h3,by rw [σu i h1,f1,Zx (by omega)]⟩
   ·rw [e] at h3
    cases h3
    cases h2
   ·rw [e] at h4
    cases h4
    exact ⟨h2,by rw [σv i h1 (by omega)]⟩
  obtain ⟨k1,k2⟩:=S'.ob i c fs key.1
  refine ⟨fun q hq=>decide_eq_true (hin q hq).1,fun p C dx fvs e1 e2=>?_⟩
  rw [key.2] at e1
  rw [k2 p C dx fvs e1 e2]
  exact Q10 fun q hq=>(σv q.2 (hin q hq).1 (by have:=(hin q hq).2; omega)).symm
 ·have hj:n ≤ j:=of_decide_eq_true hj
  have hi:j < as.length:=by rw [← lo]; exact (Q5.mp e).1
  obtain ⟨a,ea⟩:∃ a,as[j]? = some a:=⟨_,Q6 hi⟩
  rcases Vm hm ea with ⟨h1,_⟩ | ⟨h1,_⟩ | ⟨h1,b,h2,h3,h4⟩
  ·omega
  ·omega
  ·rw [e] at h4
   cases h4
   cases h3
end
section
variable {P:Program} {w:World} {K:PySem.W.Frag} {mg:Str → Option Value} {base:Heap} {k:Nat} {f:Addr} {fd:FuncData} {ps:List Str}
def QbY (fr:FrO) (mv:Nat → Bool):Prop:=(fr = .f .n ∨ fr = .f .t) ∨ ((∃ c sh,fr = .o c sh) ∨ fr = .f .l) ∧ ∀ i,mv i = false
theorem Q9j {sg:List Bool} {n m t:Nat} {vl:List Nat} {mv:Nat → Bool} {H F F' H':Hp} {σ:L2.St} {A A':Nat → List Addr} {fr:FrO} {v:V} {d:D} (ok:QbY fr mv) (h:Q9J K (Fx.body sg n vl mv H F σ A) fr F' H' A' v d):Qbj K A fr H F' H' v d:=by
 rcases ok with (rfl | rfl) | ⟨⟨c,sh,rfl⟩ | rfl,nm⟩
 ·exact h
 ·exact h
 ·obtain ⟨p,dx,C,fvs,ds,L,h1,h2,h3,h4,h5,h6,h7,h8⟩:=h
  refine ⟨p,dx,C,fvs,ds,L,h1,h2,h3,h4,h5,h6,fun a ha=>⟨?_,(h7 a ha).2⟩,h8⟩
  exact (Q00 (h7 a ha).1).elim (fun ⟨j,z,_⟩=>by rw [nm j] at z; cases z) id
 ·obtain ⟨p,h1,h2,h3,h4,h5⟩:=h
  exact ⟨p,h1,(Q00 h2).elim (fun ⟨j,z,_⟩=>by rw [nm j] at z; cases z) id,h3,h5⟩
theorem Q3p {x qual:Str} {st:Stmt} {N:List Str} {sg:List Bool} {n m:Nat} {vl:List Nat} {mv:Nat → Bool} {fr:FrO} {g:List Sl → Option Ox} (Fu:Fun K x qual st f fd) (S:FnScope N ps (defScope st)) (hn:n = ps.length) (hk:XOk sg n m N.length vl mv) (hfr:QbY fr mv)
  (hv:∀ (i:Nat) (y:Str),n ≤ i → i < n + m → N[i]? = some y → (defScope st).names.lookup y = none)
  (body:∀ (cd:Value) (A:Around) (out:List Env) (s:Shared) (G:Hp) (E:XK),A.guards = some [] → Room k (A.deeper (envOfC qual (defScope st) s.heap.objs.size f cd)) →
   BX (cxOf (L2N.CX P w) P w K mg base N qual (defScope st) f cd A out s G E) (fun cls d _ H=>E cls d H) ⟨fun i=>Y7 sg i || vl.contains i,fun i=>mv i || vl.contains i⟩ (fun i=>mv i || vl.contains i) fr (defBody st) g) :
  FnG P w K mg base (L2N.CX P w) (k + 1) f fd ps (spX K n m mv fr (fnX sg n N.length vl fr g)):=by
 refine FnG.mk' Fu S (fun us G Q E h=>(Q90 h).trans hn) fun cd A out s G us Q E hG hR h=>?_
 obtain ⟨t,p,q⟩:=body cd A out s G E hG hR
 refine ⟨_,Q9K p,?_⟩
 obtain ⟨F,as,B,τ,hu,hτ,ha,S0,r,outs,hφ,kk⟩:=h
 have hle:=hk.le
 refine ⟨stX us τ N.length,⟨?_,fun i y hy vy=>?_⟩,?_⟩
 ·unfold stX L2.start
  rw [Qc,Qc,Qc,Q3,Js,Js]
  omega
 ·by_cases c:i < n
  ·unfold stX L2.start
   rw [Q9 (by rw [Qc,Q3]; omega),Q9 (by rw [Q3]; omega),Q9 (by rw [Q3]; omega)]
  ·by_cases c2:i < n + m
   ·have z:=hv i y (by omega) c2 hy
    have vy:Vis (defScope st) y:=vy
    rcases vy with v | v | v <;> rw [z] at v <;> cases v
   ·unfold stX L2.start
    rw [Qo (by rw [Qc,Q3]; omega),Qo (by rw [Q3]; omega),Jo,Jo,Qc,Q3]
    by_cases c3:i < N.length
    ·rw [if_pos (by omega),if_pos (by omega)]
    ·rw [if_neg (by omega),if_neg (by omega)]
 unfold fnX at hφ
 split at hφ
 case isFalse=>cases hφ
 rename_i ok
 have S1:=S0.entryX hk hu hτ ha ok
 cases e:g (as ++ Zd sg.length N.length vl) with
 | none=>rw [e] at hφ; cases hφ
 | some o =>
  rw [e] at hφ
  refine q (Fx.body sg n vl mv G F (stX us τ N.length) B) F G _ _ B rfl (fun i hi=>?_) S1 o e _ ?_
  ·rw [J3] at hi
   have hsl:=hk.len
   refine ⟨?_,?_⟩
   ·show ((decide (n ≤ i) && decide (i < sg.length)) || vl.contains i) = true
    rcases hi with hi | hi
    ·have:=hk.mv i hi
     rw [decide_eq_true this.1,decide_eq_true (by omega)]
     rfl
    ·rw [hi,Bool.or_true]
   ·show (Y7 sg i && !(mv i || vl.contains i)) = false
    rcases hi with hi | hi
    ·rw [hi]; simp
    ·rw [hi]; simp
  cases o with
  | o o =>
   cases o with
   | rt d1 δ1 =>
    simp only at hφ
    obtain ⟨o1,e2,e3⟩:=Qa.mp hφ
    cases e3
    intro v σ' F' G' B' sF S2 rr
    obtain ⟨σ'',A'',st',mr,S3⟩:=S0.leaveX hk hu hτ ha ok S2 e2
    exact kk F' G' σ'' A'' st' mr S3 v (Q9j (t:=N.length) (m:=m) hfr rr)
   | nx δ1 =>
    simp only at hφ
    split at hφ
    ·obtain ⟨o1,e2,e3⟩:=Qa.mp hφ
     cases e3
     intro σ' F' G' B' sF S2
     obtain ⟨σ'',A'',st',mr,S3⟩:=S0.leaveX hk hu hτ ha ok S2 e2
     refine ⟨σ',GE.refl _,?_⟩
     exact kk F' G' σ'' A'' st' mr S3 .non .non
    ·cases hφ
   | ct δ1=>cases hφ
  | ex c δ1 =>
   simp only at hφ
   obtain ⟨o1,e2,e3⟩:=Qa.mp hφ
   cases e3
   intro σ0 σ' F' G' B' C sF _ S2 hC
   obtain ⟨σ'',A'',st',mr,S3⟩:=S0.leaveX hk hu hτ ha ok S2 e2
   exact kk F' G' σ'' A'' st' mr S3 C hC
end
end Z
namespace Z
open PySem PySem.Spec PyProof.Rows L2
section
variable {X:Cx} {CX:CXT} {k:Nat} {f C:Addr} {fd:FuncData} {ps:List Str} {sp:Sp} {E:XK} {x m:Str} {p pos apos:Pos} {e o:Expr} {es:List Expr} {ta:TE} {t:TA} {pl:Sem Bool}
theorem Q9n {pins:List (Addr × Obj)} {σ:L2.St} {H:Hp} {s:Shared} {Q:VK} {us:List Value} {vs:List V} (Fn:FnG X.prog X.w X.K X.mg X.base CX k f fd ps sp) (hG:X.A.guards = some []) (hR:Room k X.A) (hb:Binds X.K fd ps []) (hx:PassesAt CX X σ E)
  (I:L2.Inv X pins σ H s) (r:Vals vs us) (q:sp vs H Q E):wpAny (model X.prog X.w) X.A (call (.ref f) us) (EP X pins σ Q) X.xe s:=by
 have n:=Fn.len _ _ _ _ q
 have n2:(us ++ []).length = ps.length:=by rw [Qz,← r.length]; exact n
 have b:=hb s us I.kIn n2
 rw [Qz] at b
 refine wpAny_call (codeAny_mono (Fn.run X.A X.stack s H ⟨us,[]⟩ us vs Q E hG hR I.env0 b r q) ?_)
 intro res s2 hq
 cases res with
 | error er=>exact hx pins H s er s2 I hq
 | ok fl =>
  cases fl with
  | ret u=>exact I.after hq
  | next=>exact hq.elim
  | brk=>exact hq.elim
  | cont=>exact hq.elim
theorem FnG.peS {Es:L2.St → XK} (Fn:FnG X.prog X.w X.K X.mg X.base CX k f fd ps sp) (hG:X.A.guards = some []) (hR:Room k X.A) (gl:Gl X x) (m:X.mg x = some (.ref f)) (kp:PySem.W.keepIn X.K (.ref f) = true) (hb:Binds X.K fd ps []) (hx:∀ σ,PassesAt CX X σ (Es σ))
  (ha:PA X (e :: es) t) (db:(x == ("__debug__":Str)) = false) (h1:starEach (e :: es) X.env = (false,eval e X.env) :: starEach es X.env) (h2:(backTo pos (starEach es X.env)).any (·.1) = false) :
  PE X (.Call (.Name x p) (e :: es) [] pos) (fun σ H Q=>t σ H fun vs H1=>sp vs H1 Q (Es σ)):=by
 constructor
 intro pins s σ G Q I h
 refine wpAny_Call_Name_kw (ld_glob I gl m ?_ db)
 refine PySem.W.callWith_K (h₀:=X.base) I.ok.mod.kin kp (thn (ha.run pos pins s σ G _ I h) ?_) h1 h2
 rintro ws s1 ⟨us,G1,I1,r,q⟩
 exact ⟨I1.kIn,Q9n Fn hG hR hb (hx σ) I1 r q⟩
end
end Z
namespace Z
open PySem PySem.Spec PyProof.Rows L2
def Q7E (js:List Nat) (n:Nat) (fs:List (Str × Nat)):List (Str × Nat):=fs.map fun q=>(q.1,n + js.idxOf q.2)
def Q2O (js:List Nat) (n:Nat):Sl → Sl
 | .ob c fs=>.ob c (Q7E js n fs)
 | s=>s
def Q9G (js:List Nat) (n:Nat) (δ:List Sl):Ar → Sl
 | .d d=>.fz d
 | .io i=>Q2O js n (δ[i]?.getD .no)
def asX (js:List Nat) (as:List Ar) (δ:List Sl):List Sl:=as.map (Q9G js as.length δ) ++ js.map fun j=>Q2O js as.length (δ[j]?.getD .no)
def Q6Y (a b:Sl):Bool:=match a with
 | .ob c fs=>match b with
  | .ob c' fs'=>(c == c') && (fs == fs')
  | _=>false
 | _=>!Ku b && !Q8A b
def Zh (js:List Nat) (as:List Ar) (δ:List Sl):Bool :=
 decide ((ios as ++ js).Nodup) && (ios as).all (fun i=>match δ[i]? with | some s=>Yo s | none=>false) && js.all (fun j=>match δ[j]? with | some s=>!Q8A s | none=>false)
 && (ios as ++ js).all (fun i=>match δ[i]? with | some (.ob _ fs)=>fs.all fun q=>js.contains q.2 | _=>true)
def Q2r (js:List Nat) (as:List Ar):Nat → List Sl → Bool
 | _,[]=>true
 | k,s :: r=>(match s with | .ob _ fs=>(ios as ++ js).contains k || fs.all (fun q=>!js.contains q.2) | _=>true) && Q2r js as (k + 1) r
def Wg (js:List Nat) (as:List Ar) (δ outs:List Sl):Bool:=decide (outs.length = as.length + js.length) && ((ios as ++ js).all fun _=>true) && (as.zip outs).all (fun p=>match p.1 with | .io _=>Q6Y (Q9G js as.length δ p.1) p.2 | _=>true) && (js.zip (outs.drop as.length)).all (fun p=>Q6Y (Q2O js as.length (δ[p.1]?.getD .no)) p.2)
def wsA:List Ar → List Sl → List (Nat × Sl)
 | .io i :: r,b :: s=>if Ku b then wsA r s else (i,b) :: wsA r s
 | .d _ :: r,_ :: s=>wsA r s
 | _,_=>[]
def wsJ:List Nat → List Sl → List (Nat × Sl)
 | j :: r,b :: s=>if Ku b then wsJ r s else (j,b) :: wsJ r s
 | _,_=>[]
def Q0i (ws:List (Nat × Sl)):Nat → List Sl → List Sl
 | _,[]=>[]
 | k,s :: r=>((ws.lookup k).getD s) :: Q0i ws (k + 1) r
def Wl (js:List Nat) (as:List Ar) (outs δ:List Sl):List Sl:=Q0i (wsA as outs ++ wsJ js (outs.drop as.length)) 0 δ
theorem Q0m {ws:List (Nat × Sl)}:∀ {δ:List Sl} {k i:Nat},(Q0i ws k δ)[i]? = (δ[i]?).map fun s=>(ws.lookup (k + i)).getD s
 | [],k,i=>by simp [Q0i]
 | s :: r,k,0=>by simp [Q0i]
 | s :: r,k,i + 1=>by
  show (Q0i ws (k + 1) r)[i]? = _
  rw [Q0m,List.getElem?_cons_succ,show k + 1 + i = k + (i + 1) by omega]
theorem Wx {ws:List (Nat × Sl)}:∀ {δ:List Sl} {k:Nat},(Q0i ws k δ).length = δ.length
 | [],_=>rfl
 | _ :: r,k=>congrArg (· + 1) (Wx (δ:=r) (k:=k + 1))
theorem K4:∀ {as:List Ar} {outs:List Sl} {i:Nat},i ∉ ios as → (wsA as outs).lookup i = none
 | [],_,_,_=>by simp [wsA]
 | .io j :: r,[],_,_=>by simp [wsA]
 | .d _ :: r,[],_,_=>by simp [wsA]
 | .d _ :: r,b :: s,i,h=>K4 (as:=r) h
 | .io j :: r,b :: s,i,h=>by
  rw [show ios (.io j :: r) = j :: ios r from rfl,Ql,not_or] at h
  unfold wsA
  split
  ·exact K4 h.2
  ·rw [Jj,beq_eq_false_iff_ne.mpr h.1]
   exact K4 h.2
theorem Q3o:∀ {as:List Ar} {outs:List Sl} {i j:Nat} {b:Sl},(ios as).Nodup → as[j]? = some (.io i) → outs[j]? = some b → (wsA as outs).lookup i = if Ku b then none else some b
 | [],_,_,_,_,_,e,_=>by simp at e
 | .io k :: r,[],_,_,_,_,_,e=>by simp at e
 | .d _ :: r,[],_,_,_,_,_,e=>by simp at e
 | .d _ :: r,c :: s,i,j,b,nd,e1,e2=>by
  cases j with
  | zero=>cases e1
  | succ j=>exact Q3o (as:=r) (j:=j) nd e1 e2
 | .io k :: r,c :: s,i,j,b,nd,e1,e2=>by
  rw [show ios (.io k :: r) = k :: ios r from rfl,Jv] at nd
  cases j with
  | zero =>
   cases e1
   cases e2
   unfold wsA
   split
   ·exact K4 nd.1
   ·rw [Jj,beq_self_eq_true]
  | succ j =>
   have hi:i ≠ k:=fun z=>by
    subst z
    exact nd.1 (Yc.mpr ⟨j,e1⟩)
   unfold wsA
   split
   ·exact Q3o (as:=r) (j:=j) nd.2 e1 e2
   ·rw [Jj,beq_eq_false_iff_ne.mpr hi]
    exact Q3o (as:=r) (j:=j) nd.2 e1 e2
theorem Zo:∀ {js:List Nat} {outs:List Sl} {i:Nat},i ∉ js → (wsJ js outs).lookup i = none
 | [],_,_,_=>by simp [wsJ]
 | j :: r,[],_,_=>by simp [wsJ]
 | j :: r,b :: s,i,h=>by
  rw [Ql,not_or] at h
  unfold wsJ
  split
  ·exact Zo h.2
  ·rw [Jj,beq_eq_false_iff_ne.mpr h.1]
   exact Zo h.2
theorem Q4H:∀ {js:List Nat} {outs:List Sl} {i j:Nat} {b:Sl},js.Nodup → js[j]? = some i → outs[j]? = some b → (wsJ js outs).lookup i = if Ku b then none else some b
 | [],_,_,_,_,_,e,_=>by simp at e
 | k :: r,[],_,_,_,_,_,e=>by simp at e
 | k :: r,c :: s,i,j,b,nd,e1,e2=>by
  rw [Jv] at nd
  cases j with
  | zero =>
   cases e1
   cases e2
   unfold wsJ
   split
   ·exact Zo nd.1
   ·rw [Jj,beq_self_eq_true]
  | succ j =>
   have hi:i ≠ k:=fun z=>by
    subst z
    exact nd.1 (Jd e1)
   unfold wsJ
   split
   ·exact Q4H (js:=r) (j:=j) nd.2 e1 e2
   ·rw [Jj,beq_eq_false_iff_ne.mpr hi]
    exact Q4H (js:=r) (j:=j) nd.2 e1 e2
theorem Q0e {ws vs:List (Nat × Sl)} {i:Nat}:(ws ++ vs).lookup i = (ws.lookup i).or (vs.lookup i):=by
 induction ws with
 | nil=>rfl
 | cons p r ih =>
  rw [List.cons_append,Jj,Jj]
  cases i == p.1
  ·exact ih
  ·rfl
def Q0v (A:Nat → List Addr) (as:List Ar) (js:List Nat):Nat → List Addr:=fun j=>if j < as.length then W4 A as j else match js[j - as.length]? with
 | some i=>A i
 | none=>[]
def Y8 (as:List Ar) (js:List Nat) (j:Nat):Option Nat:=if j < as.length then match as[j]? with
  | some (.io i)=>some i
  | _=>none
 else js[j - as.length]?
theorem Yy {A:Nat → List Addr} {as:List Ar} {js:List Nat} {j:Nat}:Q0v A as js j = match Y8 as js j with | some i=>A i | none=>[]:=by
 unfold Q0v Y8 W4
 split
 ·cases as[j]? with
  | none=>rfl
  | some a=>cases a <;> rfl
 ·rfl
theorem V0 {as:List Ar} {js:List Nat} {i:Nat}:i ∈ ios as ++ js ↔ ∃ j,Y8 as js j = some i:=by
 rw [Qj]
 constructor
 ·rintro (h | h)
  ·obtain ⟨j,e⟩:=Yc.mp h
   refine ⟨j,?_⟩
   unfold Y8
   rw [if_pos (Q5.mp e).1,e]
  ·obtain ⟨j,hj,e⟩:=List.getElem_of_mem h
   refine ⟨as.length + j,?_⟩
   unfold Y8
   rw [if_neg (by omega),show as.length + j - as.length = j by omega,Q6 hj,e]
 ·rintro ⟨j,e⟩
  unfold Y8 at e
  split at e
  ·split at e
   ·rename_i i' e2
    cases e
    exact .inl (Yc.mpr ⟨j,e2⟩)
   ·cases e
  ·exact .inr (Jd e)
theorem Q4s {as:List Ar} {js:List Nat} (nd:(ios as ++ js).Nodup) {j k i:Nat} (h1:Y8 as js j = some i) (h2:Y8 as js k = some i):j = k:=by
 rw [List.nodup_append] at nd
 obtain ⟨n1,n2,n3⟩:=nd
 unfold Y8 at h1 h2
 split at h1
 ·rename_i c1
  split at h1
  case h_2=>cases h1
  rename_i i1 e1
  cases h1
  split at h2
  ·split at h2
   case h_2=>cases h2
   rename_i i2 e2
   cases h2
   exact Q5i n1 e1 e2
  ·exact absurd rfl (n3 i (Yc.mpr ⟨j,e1⟩) i (Jd h2))
 ·rename_i c1
  split at h2
  ·split at h2
   case h_2=>cases h2
   rename_i i2 e2
   cases h2
   exact absurd rfl (n3 i (Yc.mpr ⟨k,e2⟩) i (Jd h1))
  ·rename_i c2
   have l1:=(Q5.mp h1).1
   have l2:=(Q5.mp h2).1
   have e1:=(Q5.mp h1).2
   have e2:=(Q5.mp h2).2
   have pw:=List.pairwise_iff_getElem.mp n2
   rcases Nat.lt_trichotomy (j - as.length) (k - as.length) with q | q | q
   ·exact absurd (e1.trans e2.symm) (pw _ _ l1 l2 q)
   ·omega
   ·exact absurd (e2.trans e1.symm) (pw _ _ l2 l1 q)
theorem Q0y {js:List Nat} {as:List Ar} {δ:List Sl} (h:Zh js as δ = true):(ios as ++ js).Nodup ∧ (∀ i ∈ ios as,∃ s,δ[i]? = some s ∧ Yo s = true) ∧ (∀ j ∈ js,∃ s,δ[j]? = some s ∧ s ≠ .no) ∧ ∀ i ∈ ios as ++ js,∀ c fs,δ[i]? = some (.ob c fs) → ∀ q ∈ fs,q.2 ∈ js:=by
 unfold Zh at h
 simp only [Q4,decide_eq_true_eq] at h
 obtain ⟨⟨⟨h1,h2⟩,h3⟩,h4⟩:=h
 refine ⟨h1,fun i hi=>?_,fun j hj=>?_,fun i hi c fs e q hq=>?_⟩
 ·have:=Qh.mp h2 i hi
  split at this
  ·rename_i s e; exact ⟨s,e,this⟩
  ·cases this
 ·have:=Qh.mp h3 j hj
  split at this
  ·rename_i s e
   refine ⟨s,e,fun z=>?_⟩
   subst z
   cases this
  ·cases this
 ·have:=Qh.mp h4 i hi
  rw [e] at this
  simpa using Qh.mp this q hq
theorem Q32 {js:List Nat} {as:List Ar}:∀ {δ:List Sl} {k i:Nat} {c:Str} {fs:List (Str × Nat)},Q2r js as k δ = true → δ[i]? = some (.ob c fs) → k + i ∉ ios as ++ js → ∀ q ∈ fs,q.2 ∉ js
 | [],_,_,_,_,_,e,_,_,_=>by simp at e
 | s :: r,k,0,c,fs,h,e,n,q,hq=>by
  cases e
  unfold Q2r at h
  rw [Q4,J3] at h
  rcases h.1 with z | z
  ·exact absurd (Ja.mp z) (by simpa using n)
  ·simpa using Qh.mp z q hq
 | s :: r,k,i + 1,c,fs,h,e,n,q,hq=>by
  unfold Q2r at h
  rw [Q4] at h
  exact Q32 (δ:=r) (k:=k + 1) (i:=i) h.2 e (by rw [show k + 1 + i = k + (i + 1) by omega]; exact n) q hq
theorem Q3V {js:List Nat} {as:List Ar} {δ outs:List Sl} (h:Wg js as δ outs = true):outs.length = as.length + js.length ∧ ∀ j i b,Y8 as js j = some i → outs[j]? = some b → Q6Y (Q2O js as.length (δ[i]?.getD .no)) b = true:=by
 unfold Wg at h
 simp only [Q4,decide_eq_true_eq] at h
 obtain ⟨⟨⟨h1,_⟩,h3⟩,h4⟩:=h
 refine ⟨h1,fun j i b e1 e2=>?_⟩
 unfold Y8 at e1
 split at e1
 ·split at e1
  case h_2=>cases e1
  rename_i i' e3
  cases e1
  have:(Ar.io i,b) ∈ as.zip outs:=Jd (i:=j) (by rw [Jt]; exact ⟨e3,e2⟩)
  exact Qh.mp h3 _ this
 ·rename_i c
  have:(i,b) ∈ js.zip (outs.drop as.length):=Jd (i:=j - as.length) (by
   rw [Jt,List.getElem?_drop,show as.length + (j - as.length) = j by omega]
   exact ⟨e1,e2⟩)
  exact Qh.mp h4 _ this
theorem Q1l {js:List Nat} {as:List Ar} {outs δ:List Sl} {i:Nat} (h:i ∉ ios as ++ js):(Wl js as outs δ)[i]? = δ[i]?:=by
 rw [Qj,not_or] at h
 unfold Wl
 rw [Q0m,Nat.zero_add,Q0e,K4 h.1,Zo h.2]
 cases δ[i]? <;> rfl
theorem Q27 {js:List Nat} {as:List Ar} {outs δ:List Sl} {i j:Nat} {b:Sl} (nd:(ios as ++ js).Nodup) (h:Y8 as js j = some i) (e:outs[j]? = some b):(Wl js as outs δ)[i]? = (δ[i]?).map fun s=>if Ku b then s else b:=by
 rw [List.nodup_append] at nd
 obtain ⟨n1,n2,n3⟩:=nd
 unfold Wl
 rw [Q0m,Nat.zero_add,Q0e]
 have key:((wsA as outs).lookup i).or ((wsJ js (outs.drop as.length)).lookup i) = if Ku b then none else some b:=by
  unfold Y8 at h
  split at h
  ·split at h
   case h_2=>cases h
   rename_i i' e2
   cases h
   rw [Q3o n1 e2 e,Zo fun z=>n3 i (Yc.mpr ⟨j,e2⟩) i z rfl]
   split <;> rfl
  ·rename_i c
   rw [K4 fun z=>n3 i z i (Jd h) rfl,Q4H n2 h (by rw [List.getElem?_drop,show as.length + (j - as.length) = j by omega]; exact e)]
   rfl
 rw [key]
 cases δ[i]? with
 | none=>rfl
 | some s=>cases Ku b <;> rfl
theorem Q1n {a b:Sl} (h:Q6Y a b = true):(∃ c fs,a = .ob c fs ∧ b = .ob c fs) ∨ (Ku a = false ∧ Ku b = false ∧ b ≠ .no):=by
 unfold Q6Y at h
 split at h
 ·split at h
  ·rw [Q4,beq_iff_eq,beq_iff_eq] at h
   obtain ⟨rfl,rfl⟩:=h
   exact .inl ⟨_,_,rfl,rfl⟩
  ·cases h
 ·rename_i hn
  rw [Q4] at h
  refine .inr ⟨?_,by simpa using h.1,fun z=>?_⟩
  ·cases a with
   | ob c fs=>exact absurd rfl (hn c fs)
   | _=>rfl
  ·subst z
   cases h.2
theorem Q93 {js:List Nat} {n:Nat} {s:Sl} {c:Str} {fs:List (Str × Nat)} (h:Q2O js n s = .ob c fs):∃ gs,s = .ob c gs ∧ fs = Q7E js n gs:=by
 cases s with
 | ob c' gs=>cases h; exact ⟨gs,rfl,rfl⟩
 | _=>cases h
theorem Q8h {js:List Nat} {n:Nat} {s:Sl} (h:Q2O js n s = .no):s = .no:=by
 cases s <;> first | rfl | cases h
theorem Q2W {K:PySem.W.Frag} {F H:Hp} {js:List Nat} {n:Nat} {s:Sl} {v:Option V} {A:List Addr}:Vy K F H (Q2O js n s) v A ↔ Vy K F H s v A:=by
 cases s <;> exact Iff.rfl
section
variable {K:PySem.W.Frag} {Y:Fx} {F H:Hp} {δ:List Sl} {σ:L2.St} {A:Nat → List Addr} {js:List Nat}
def Q1b (js:List Nat) (σ:L2.St):L2.St:=js.map fun j=>jn σ[j]?
theorem Q3d {as:List Ar} {j i:Nat} (h:Y8 as js j = some i):(asX js as δ)[j]? = some (Q2O js as.length (δ[i]?.getD .no)):=by
 unfold Y8 at h
 unfold asX
 split at h
 ·split at h
  case h_2=>cases h
  rename_i i' e
  cases h
  rw [Q9 (by rw [Q3]; assumption),Qd,e]
  rfl
 ·rw [Qo (by rw [Q3]; omega),Q3,Qd,h]
  rfl
theorem Ke {vs:List V} {as:List Ar} {j i:Nat} (r:ArR K F H A [] σ vs as) (h:Y8 as js j = some i):jn (vs.map some ++ Q1b js σ)[j]? = jn σ[i]?:=by
 unfold Y8 at h
 have hl:=r.length
 split at h
 ·split at h
  case h_2=>cases h
  rename_i i' e
  cases h
  obtain ⟨v,v1,v2⟩:=r.get e
  rw [Q9 (by rw [Q3]; omega),Qd,v1]
  rw [show σ[i]? = some (some v) from v2]
  rfl
 ·rename_i c
  unfold Q1b
  rw [Qo (by rw [Q3]; omega),Q3,Qd,hl,h]
  rfl
theorem Q4t {σ1 σ2:L2.St} {n:Nat} {fs:List (Str × Nat)} (h:∀ q ∈ fs,jn σ1[n + js.idxOf q.2]? = jn σ2[q.2]?):Q0r σ1 (Q7E js n fs) = Q0r σ2 fs:=by
 unfold Q0r Q7E
 induction fs with
 | nil=>rfl
 | cons q r ih =>
  rw [Qq,Jf,Jf,ih fun x hx=>h x (Qb _ hx)]
  simp only [h q Qe]
theorem Q8N {σ1 σ2:L2.St} {fs:List (Str × Nat)} (h:∀ q ∈ fs,jn σ1[q.2]? = jn σ2[q.2]?):Q0r σ1 fs = Q0r σ2 fs:=by
 unfold Q0r
 induction fs with
 | nil=>rfl
 | cons q r ih =>
  rw [Jf,Jf,ih fun x hx=>h x (Qb _ hx)]
  simp only [h q Qe]
theorem Wa {as:List Ar} {i:Nat} (h:i ∈ js):Y8 as js (as.length + js.idxOf i) = some i:=by
 unfold Y8
 rw [if_neg (by omega),show as.length + js.idxOf i - as.length = js.idxOf i by omega]
 have hl:js.idxOf i < js.length:=List.idxOf_lt_length_iff.mpr h
 rw [Q6 hl,List.getElem_idxOf hl]
theorem SR.argsX {vs:List V} {as:List Ar} (S:SR K Y F H δ σ A) (ok:Zh js as δ = true) (r:ArR K F H A [] σ vs as):SR K (Fx.args as.length) F H (asX js as δ) (vs.map some ++ Q1b js σ) (Q0v A as js):=by
 obtain ⟨nd,o1,o2,o3⟩:=Q0y ok
 have hl:=r.length
 have mem:∀ j a,a ∈ Q0v A as js j → ∃ i,Y8 as js j = some i ∧ a ∈ A i:=fun j a h=>by
  rw [Yy] at h
  split at h
  ·rename_i i e; exact ⟨i,e,h⟩
  ·simp at h
 have lA:(asX js as δ).length = as.length + js.length:=by unfold asX; rw [Qc,Q3,Q3]
 refine ⟨by rw [lA,Qc,Q3]; unfold Q1b; rw [Q3,hl],fun j s e=>?_,fun j e=>?_,fun j k a h1 h2=>?_,fun j a h=>?_,fun _ _ _ _=>rfl,S.sub,fun _ z=>(by cases z),fun _ _=>trivial,fun _ _ z=>(by cases z),fun _ _ _=>rfl,fun _ _ z=>(by cases z),fun i z=>z.elim (fun z=>(by cases z)) id,fun j c fs e=>?_,fun j hj e=>?_⟩
 ·cases el:Y8 as js j with
  | some i =>
   rw [Q3d el] at e
   cases e
   rw [Yy,el,Ke r el,Q2W]
   cases es:δ[i]? with
   | none =>
    show A i = []
    exact S.out i es
   | some s=>exact S.slot i s es
  | none =>
   have hj:j < as.length:=by
    apply Nat.lt_of_not_le
    intro c
    unfold Y8 at el
    rw [if_neg (by omega)] at el
    have l1:=(Q5.mp e).1
    have:=Qv.mp el
    omega
   rw [Yy,el]
   have e':=e
   unfold asX at e'
   rw [Q9 (by rw [Q3]; exact hj),Qd] at e'
   cases ea:as[j]? with
   | none=>rw [ea] at e'; cases e'
   | some a =>
    cases a with
    | io i=>unfold Y8 at el; rw [if_pos hj,ea] at el; cases el
    | d d =>
     rw [ea] at e'
     cases e'
     obtain ⟨v,v1,v2⟩:=r.get ea
     refine ⟨rfl,v,?_,Vw.nil v2⟩
     rw [Q9 (by rw [Q3]; omega),Qd,v1]
     rfl
 ·have c:as.length + js.length ≤ j:=by
   have:=Qv.mp e
   omega
  unfold Q0v
  rw [if_neg (by omega),Qn (by omega)]
 ·obtain ⟨i,e1,m1⟩:=mem j a h1
  obtain ⟨i',e2,m2⟩:=mem k a h2
  have:=S.dis i i' a m1 m2
  subst this
  exact Q4s nd e1 e2
 ·obtain ⟨i,e1,m1⟩:=mem j a h
  exact S.hid i a m1
 ·obtain ⟨i,e1⟩:∃ i,Y8 as js j = some i:=by
   cases el:Y8 as js j with
   | some i=>exact ⟨i,rfl⟩
   | none =>
    exfalso
    have hj:j < as.length:=by
     apply Nat.lt_of_not_le
     intro cc
     unfold Y8 at el
     rw [if_neg (by omega)] at el
     have l1:=(Q5.mp e).1
     have:=Qv.mp el
     omega
    unfold asX at e
    rw [Q9 (by rw [Q3]; exact hj),Qd] at e
    cases ea:as[j]? with
    | none=>rw [ea] at e; cases e
    | some a =>
     cases a with
     | io i=>unfold Y8 at el; rw [if_pos hj,ea] at el; cases el
     | d d=>rw [ea] at e; cases e
  rw [Q3d e1] at e
  obtain ⟨gs,g1,rfl⟩:=Q93 (Qs.inj e)
  have g2:δ[i]? = some (.ob c gs):=by
   cases es:δ[i]? with
   | none=>rw [es] at g1; cases g1
   | some s=>rw [es] at g1; exact congrArg some g1
  obtain ⟨h1,h2⟩:=S.ob i c gs g2
  have hm:∀ q ∈ gs,q.2 ∈ js:=o3 i (V0.mpr ⟨j,e1⟩) c gs g2
  refine ⟨fun q hq=>?_,fun p C dx fvs q1 q2=>?_⟩
  ·unfold Q7E at hq
   obtain ⟨q0,hq0,rfl⟩:=Jx.mp hq
   exact decide_eq_true (J4 _ _)
  ·rw [Ke r e1] at q1
   rw [h2 p C dx fvs q1 q2]
   exact (Q4t fun q hq=>Ke r (Wa (hm q hq))).symm
 ·have hj:as.length ≤ j:=of_decide_eq_true hj
  have l1:=(Q5.mp e).1
  have hlt:j - as.length < js.length:=by omega
  have e1:Y8 as js j = some js[j - as.length]:=by
   unfold Y8
   rw [if_neg (by omega),Q6 hlt]
  rw [Q3d e1] at e
  obtain ⟨s,h1,h2⟩:=o2 js[j - as.length] (List.getElem_mem hlt)
  rw [h1] at e
  exact h2 (Q8h (Qs.inj e))
def sgB (js:List Nat) (n:Nat) (σ2 σ:L2.St):L2.St:=(Jn σ.length).map fun i=>if js.contains i then jn σ2[n + js.idxOf i]? else jn σ[i]?
def AB (js:List Nat) (n:Nat) (A2 A:Nat → List Addr):Nat → List Addr:=fun i=>if js.contains i then A2 (n + js.idxOf i) else A i
theorem Q25 {n:Nat} {σ2 σ:L2.St} {i:Nat} (h:i ∈ js) (hl:i < σ.length):jn (sgB js n σ2 σ)[i]? = jn σ2[n + js.idxOf i]?:=by
 unfold sgB
 rw [Qd,List.getElem?_range hl]
 simp only [Qx]
 rw [if_pos (Ja.mpr h)]
 rfl
theorem Zy {n:Nat} {σ2 σ:L2.St} {i:Nat} (h:i ∉ js):(sgB js n σ2 σ)[i]? = σ[i]?:=by
 unfold sgB
 rw [Qd]
 by_cases hl:i < σ.length
 ·rw [List.getElem?_range hl]
  simp only [Qx]
  rw [if_neg (by simpa using h),Q6 hl]
  rfl
 ·rw [Qn (by rw [List.length_range]; omega),Qn (by omega)]
  rfl
theorem Q5l {n:Nat} {A2 A:Nat → List Addr} {i:Nat} (h:i ∈ js):AB js n A2 A i = A2 (n + js.idxOf i):=if_pos (Ja.mpr h)
theorem Q1a {n:Nat} {A2 A:Nat → List Addr} {i:Nat} (h:i ∉ js):AB js n A2 A i = A i:=if_neg (by simpa using h)
theorem SR.behindX {mv:Nat → Bool} {vs:List V} {as:List Ar} {F2 H2:Hp} {outs:List Sl} {σ2:L2.St} {A2:Nat → List Addr} (S:SR K Y F H δ σ A) (ok:Zh js as δ = true) (r:ArR K F H A [] σ vs as)
  (st:Q9f (Q0v A as js) mv (as.length + js.length) F H F2 H2) (mr:MvR (Q0v A as js) A2 mv H (vs.map some ++ Q1b js σ) σ2)
  (S2:SR K (Fx.args as.length) F2 H2 outs σ2 A2) (oo:Wg js as δ outs = true)
  (hmv:∀ i,mv i = true → as.length ≤ i ∧ i < as.length + js.length) (hY:∀ i,mv i = true → ∀ j,js[i - as.length]? = some j → Y.lt j = false) (hsep:(∀ i,mv i = false) ∨ Q2r js as 0 δ = true) :
  SR K Y F2 H2 (Wl js as outs δ) (sgB js as.length σ2 σ) (AB js as.length A2 A):=by
 obtain ⟨nd,o1,o2,o3⟩:=Q0y ok
 obtain ⟨lo,oe⟩:=Q3V oo
 have hl:=r.length
 have lσ:(sgB js as.length σ2 σ).length = σ.length:=by unfold sgB; rw [Q3,List.length_range]
 have ndj:js.Nodup:=(List.nodup_append.mp nd).2.1
 have dij:∀ i,i ∈ ios as → i ∉ js:=fun i h1 h2=>(List.nodup_append.mp nd).2.2 i h1 i h2 rfl
 have jlt:∀ j ∈ js,j < δ.length:=fun j hj=>by
  obtain ⟨s,e,_⟩:=o2 j hj
  exact (Q5.mp e).1
 have ilt:∀ i ∈ ios as ++ js,i < δ.length:=fun i hi=>by
  rcases Qj.mp hi with h | h
  ·obtain ⟨s,e,_⟩:=o1 i h
   exact (Q5.mp e).1
  ·exact jlt i h
 have mem:∀ j a,a ∈ Q0v A as js j → ∃ i,Y8 as js j = some i ∧ a ∈ A i:=fun j a h=>by
  rw [Yy] at h
  split at h
  ·rename_i i e; exact ⟨i,e,h⟩
  ·simp at h
 have mvs:∀ j,mv j = true → ∃ i,Y8 as js j = some i ∧ i ∈ js ∧ Y.lt i = false:=fun j hj=>by
  obtain ⟨h1,h2⟩:=hmv j hj
  have hlt:j - as.length < js.length:=by omega
  refine ⟨js[j - as.length],?_,List.getElem_mem hlt,hY j hj _ (Q6 hlt)⟩
  unfold Y8
  rw [if_neg (by omega),Q6 hlt]
 -- what other slots own is kept
 have other:∀ i a,a ∈ A i → i ∉ ios as ++ js → ∀ j,a ∉ Q0v A as js j:=fun i a m hi j h=>by
  obtain ⟨i',e,m'⟩:=mem j a h
  have:=S.dis i i' a m m'
  subst this
  exact hi (V0.mpr ⟨j,e⟩)
 have keep:∀ a o,H a = some o → (∀ j,a ∉ Q0v A as js j) → H2 a = some o:=fun a o e n=>st.kp a o e fun j _=>n j
 have keepO:∀ i a,a ∈ A i → i ∉ ios as ++ js → H2 a = H a:=fun i a m hi=>by
  obtain ⟨u,q⟩:=(S.there m).some
  rw [q,keep a _ q (other i a m hi)]
 -- where the new things are
 have inA:∀ i a,a ∈ AB js as.length A2 A i → (∃ j,Y8 as js j = some i ∧ a ∈ A2 j) ∨ (i ∉ ios as ++ js ∧ a ∈ A i):=fun i a h=>by
  by_cases c:i ∈ js
  ·rw [Q5l c] at h
   exact .inl ⟨_,Wa c,h⟩
  ·rw [Q1a c] at h
   by_cases c2:i ∈ ios as
   ·obtain ⟨j,e⟩:=V0.mp (Q7 js c2)
    refine .inl ⟨j,e,?_⟩
    have hj:mv j = false:=by
     cases q:mv j with
     | false=>rfl
     | true =>
      obtain ⟨i',e',hi',_⟩:=mvs j q
      rw [e] at e'
      cases e'
      exact absurd hi' c
    rw [(mr.eq j hj).2,Yy,e]
    exact h
   ·exact .inr ⟨by rw [Qj,not_or]; exact ⟨c2,c⟩,h⟩
 -- a thing of a callee's slot was the slot's,or is of a moving one,or is new
 have from2:∀ j i a,Y8 as js j = some i → a ∈ A2 j → a ∈ A i ∨ (mv j = true ∧ ((∃ j' i',mv j' = true ∧ Y8 as js j' = some i' ∧ a ∈ A i') ∨ H a = none)):=fun j i a e h=>by
  cases q:mv j with
  | false =>
   rw [(mr.eq j q).2,Yy,e] at h
   exact .inl h
  | true =>
   refine .inr ⟨rfl,?_⟩
   rcases mr.mv j a q h with ⟨j',h1,h2⟩ | h
   ·obtain ⟨i',e',m'⟩:=mem j' a h2
    exact .inl ⟨j',i',h1,e',m'⟩
   ·exact .inr h
 have apart:∀ j i a k,Y8 as js j = some i → a ∈ A2 j → a ∈ A k → k ∈ ios as ++ js:=fun j i a k e h m=>by
  rcases from2 j i a e h with q | ⟨_,⟨j',i',_,e',m'⟩ | q⟩
  ·have:=S.dis k i a m q
   subst this
   exact V0.mpr ⟨j,e⟩
  ·have:=S.dis k i' a m m'
   subst this
   exact V0.mpr ⟨j',e'⟩
  ·exact absurd q (S.isSome m)
 have outAt:∀ j i,Y8 as js j = some i → ∃ b,outs[j]? = some b:=fun j i e=>by
  have hj:j < as.length + js.length:=by
   unfold Y8 at e
   split at e
   ·omega
   ·have:=(Q5.mp e).1
    omega
  exact ⟨_,Q6 (by omega)⟩
 have slotAt:∀ j i,Y8 as js j = some i → jn (sgB js as.length σ2 σ)[i]? = jn σ2[j]? ∧ AB js as.length A2 A i = A2 j:=fun j i e=>by
  have hi:=V0.mpr ⟨j,e⟩
  by_cases c:i ∈ js
  ·have:=Q4s nd e (Wa c)
   rw [Q25 c (by rw [← S.len]; exact jlt i c),Q5l c,this]
   exact ⟨rfl,rfl⟩
  ·have c2:i ∈ ios as:=(Qj.mp hi).resolve_right c
   have hj:mv j = false:=by
    cases q:mv j with
    | false=>rfl
    | true =>
     obtain ⟨i',e',hi',_⟩:=mvs j q
     rw [e] at e'
     cases e'
     exact absurd hi' c
   obtain ⟨f1,f2⟩:=mr.eq j hj
   rw [Zy c,Q1a c,f2,f1,Ke r e,Yy,e]
   exact ⟨rfl,rfl⟩
 refine ⟨by rw [lσ]; unfold Wl; rw [Wx]; exact S.len,fun i s e=>?_,fun i e=>?_,fun i k a h1 h2=>?_,fun i a h=>?_,fun i a h hi=>?_,S2.sub,fun i hi=>?_,fun _ _=>trivial,fun a o e n=>?_,fun a e n=>?_,S.f0.trans st.f,S.lio,fun i c fs e=>?_,fun i hi e=>?_⟩
 ·by_cases c:i ∈ ios as ++ js
  ·obtain ⟨j,ej⟩:=V0.mp c
   obtain ⟨b,eb⟩:=outAt j i ej
   rw [Q27 nd ej eb] at e
   obtain ⟨s1,s2⟩:=slotAt j i ej
   rw [s1,s2]
   have q:=S2.slot j b eb
   cases es:δ[i]? with
   | none=>rw [es] at e; cases e
   | some s0 =>
    rw [es] at e
    have e:(if Ku b = true then s0 else b) = s:=Qs.inj e
    have eo:=oe j i b ej eb
    rw [es] at eo
    rcases Q1n eo with ⟨c0,fs0,e1,e2⟩ | ⟨e1,e2,e3⟩
    ·subst e2
     rw [show Ku (Sl.ob c0 fs0) = true from rfl,if_pos rfl] at e
     subst e
     have e1:Q2O js as.length s0 = .ob c0 fs0:=e1
     rw [← e1] at q
     exact Q2W.mp q
    ·rw [e2,if_neg (by simp)] at e
     subst e
     exact q
  ·rw [Q1l c] at e
   have cj:i ∉ js:=fun z=>c (Q8 _ z)
   rw [Zy cj,Q1a cj]
   exact (S.slot i s e).mono st.f fun a ha=>keepO i a ha c
 ·have h0:δ[i]? = none:=by
   have:=Qv.mp e
   unfold Wl at this
   rw [Wx] at this
   exact Qn this
  have cj:i ∉ js:=fun z=>by
   have:=jlt i z
   have:=Qv.mp h0
   omega
  rw [Q1a cj]
  exact S.out i h0
 ·rcases inA i a h1 with ⟨j,e1,m1⟩ | ⟨n1,m1⟩
  ·rcases inA k a h2 with ⟨j',e2,m2⟩ | ⟨n2,m2⟩
   ·have:=S2.dis j j' a m1 m2
    subst this
    exact Qs.inj (e1.symm.trans e2)
   ·exact absurd (apart j i a k e1 m1 m2) n2
  ·rcases inA k a h2 with ⟨j',e2,m2⟩ | ⟨n2,m2⟩
   ·exact absurd (apart j' k a i e2 m2 m1) n1
   ·exact S.dis i k a m1 m2
 ·rcases inA i a h with ⟨j,e1,m1⟩ | ⟨n1,m1⟩
  ·exact S2.hid j a m1
  ·cases q:F2 a with
   | none=>rfl
   | some o =>
    rcases st.nw a (S.hid i a m1) (by rw [q]; simp) with z | ⟨j,hj,z⟩
    ·exact absurd z (S.isSome m1)
    ·exact absurd z (other i a m1 n1 j)
 ·rcases inA i a h with ⟨j,e1,m1⟩ | ⟨n1,m1⟩
  ·rcases from2 j i a e1 m1 with q | ⟨_,⟨j',i',h1,e',m'⟩ | q⟩
   ·exact S.new i a q hi
   ·obtain ⟨i2,e2,_,l2⟩:=mvs j' h1
    rw [e'] at e2
    cases e2
    exact S.new i' a m' l2
   ·exact S.fresh0 q
  ·exact S.new i a m1 hi
 ·obtain ⟨f1,f2⟩:=S.fix i hi
  by_cases c:i ∈ js
  ·have nm:mv (as.length + js.idxOf i) = false:=by
    cases q:mv (as.length + js.idxOf i) with
    | false=>rfl
    | true =>
     obtain ⟨i2,e2,_,l2⟩:=mvs _ q
     rw [Wa c] at e2
     cases e2
     rw [hi] at l2
     cases l2
   obtain ⟨g1,g2⟩:=mr.eq _ nm
   refine ⟨?_,?_⟩
   ·have hl':i < σ.length:=by rw [← S.len]; exact jlt i c
    have z:=Q25 (n:=as.length) (σ2:=σ2) c hl'
    rw [g1,Ke r (Wa c)] at z
    have hl2:i < (sgB js as.length σ2 σ).length:=by rw [lσ]; exact hl'
    rw [← f1]
    rw [Q6 hl',Q6 hl2] at z ⊢
    exact congrArg some z
   ·rw [Q5l c,g2,Yy,Wa c]
    exact f2
  ·rw [Zy c,Q1a c]
   exact ⟨f1,f2⟩
 ·refine keep a o (S.kp a o e n) fun j h=>?_
  obtain ⟨i,e1,m1⟩:=mem j a h
  cases c:Y.lt i with
  | true =>
   rw [(S.fix i c).2] at m1
   exact n i c m1
  | false =>
   rw [S.new i a m1 c] at e
   cases e
 ·cases q:F a with
  | some o=>exact S.nw a e (by rw [q]; simp)
  | none =>
   rcases st.nw a q n with z | ⟨j,hj,z⟩
   ·exact S.fresh0 z
   ·obtain ⟨i,e1,m1⟩:=mem j a z
    obtain ⟨i2,e2,_,l2⟩:=mvs j hj
    rw [e1] at e2
    cases e2
    exact S.new i a m1 l2
 ·by_cases cc:i ∈ ios as ++ js
  ·obtain ⟨j,ej⟩:=V0.mp cc
   obtain ⟨b,eb⟩:=outAt j i ej
   rw [Q27 nd ej eb] at e
   obtain ⟨s1,s2⟩:=slotAt j i ej
   rw [s1]
   cases es:δ[i]? with
   | none=>rw [es] at e; cases e
   | some s0 =>
    rw [es] at e
    have e:(if Ku b = true then s0 else b) = Sl.ob c fs:=Qs.inj e
    have eo:=oe j i b ej eb
    rw [es] at eo
    rcases Q1n eo with ⟨c0,fs0,e1,e2⟩ | ⟨e1,e2,e3⟩
    ·subst e2
     rw [show Ku (Sl.ob c0 fs0) = true from rfl,if_pos rfl] at e
     subst e
     have e1:Q2O js as.length (Sl.ob c fs) = .ob c0 fs0:=e1
     cases e1
     obtain ⟨k1,k2⟩:=S2.ob j c _ eb
     obtain ⟨h1,_⟩:=S.ob i c fs es
     refine ⟨h1,fun p C dx fvs q1 q2=>?_⟩
     rw [k2 p C dx fvs q1 q2]
     refine Q4t fun q hq=>?_
     have hm:=o3 i cc c fs es q hq
     rw [Q25 hm (by rw [← S.len]; exact jlt q.2 hm)]
    ·rw [e2,if_neg (by simp)] at e
     subst e
     cases e2
  ·rw [Q1l cc] at e
   have cj:i ∉ js:=fun z=>cc (Q8 _ z)
   rw [Zy cj]
   obtain ⟨h1,h2⟩:=S.ob i c fs e
   refine ⟨h1,fun p C dx fvs q1 q2=>?_⟩
   have hp:=S.obp e q1
   rw [keepO i p hp cc] at q2
   rw [h2 p C dx fvs q1 q2]
   refine Q8N fun q hq=>?_
   by_cases c2:q.2 ∈ js
   ·rcases hsep with hs | hs
    ·have nm:=mr.eq (as.length + js.idxOf q.2) (hs _)
     rw [Q25 c2 (by rw [← S.len]; exact jlt q.2 c2),nm.1,Ke r (Wa c2)]
    ·exact absurd c2 (Q32 hs e (by rw [Nat.zero_add]; exact cc) q hq)
   ·rw [Zy c2]
 ·by_cases c:i ∈ ios as ++ js
  ·obtain ⟨j,ej⟩:=V0.mp c
   obtain ⟨b,eb⟩:=outAt j i ej
   rw [Q27 nd ej eb] at e
   cases es:δ[i]? with
   | none=>rw [es] at e; cases e
   | some s0 =>
    rw [es] at e
    have e:(if Ku b = true then s0 else b) = Sl.no:=Qs.inj e
    have eo:=oe j i b ej eb
    rw [es] at eo
    rcases Q1n eo with ⟨c0,fs0,e1,e2⟩ | ⟨e1,e2,e3⟩
    ·subst e2
     rw [show Ku (Sl.ob c0 fs0) = true from rfl,if_pos rfl] at e
     subst e
     cases e1
    ·rw [e2,if_neg (by simp)] at e
     exact e3 e
  ·rw [Q1l c] at e
   exact S.vno i hi e
end
end Z
namespace Z
open PySem PySem.Spec PyProof.Rows L2
def EVX (X:Cx) (W:WX) (e:Expr) (f:List Sl → Option (Rs × List Sl)) (M:List Nat):Prop :=
 ∃ t,PE X e t ∧ ∀ (Y:Fx) (F H:Hp) (δ:List Sl) (σ:L2.St) (A:Nat → List Addr),SR X.K Y F H δ σ A → ∀ (r:Rs) (δ':List Sl),f δ = some (r,δ') → ∀ Q:VK,
  (match r with
   | .ok d=>∀ v F' H',Stp A M F H F' H' → SR X.K Y F' H' δ' σ A → Rp X.K F' v d → Q v H'
   | .ex c=>∀ F' H' C,Stp A M F H F' H' → SR X.K Y F' H' δ' σ A → Vf X.K c C → W (.ref C) none σ H') → t σ H Q
inductive Ra where
 | as (l:List Ar)
 | ex (c:Str)
def CVX (X:Cx) (W:WX) (es:List Expr) (f:List Sl → Option (Ra × List Sl)) (M:List Nat) (n:Nat) (B:List Nat):Prop :=
 (∃ t,PA X es t ∧ ∀ (Y:Fx) (F H:Hp) (δ:List Sl) (σ:L2.St) (A:Nat → List Addr),SR X.K Y F H δ σ A → ∀ (r:Ra) (δ':List Sl),f δ = some (r,δ') → ∀ Q:List V → Hp → Prop,
  (match r with
   | .as as=>∀ vs F' H',Stp A M F H F' H' → SR X.K Y F' H' δ' σ A → ArR X.K F' H' A [] σ vs as → Q vs H'
   | .ex c=>∀ F' H' C,Stp A M F H F' H' → SR X.K Y F' H' δ' σ A → Vf X.K c C → W (.ref C) none σ H') → t σ H Q) ∧
 ∀ δ as δ',f δ = some (.as as,δ') → as.length = n ∧ ∀ i ∈ ios as,i ∈ B
def xOk (f:List Sl → Option (D × List Sl)):List Sl → Option (Rs × List Sl):=fun δ=>(f δ).map fun p=>(.ok p.1,p.2)
def xAs (f:List Sl → Option (List Ar × List Sl)):List Sl → Option (Ra × List Sl):=fun δ=>(f δ).map fun p=>(.as p.1,p.2)
def Ka (fa:List Sl → Option (Rs × List Sl)) (fr:List Sl → Option (Ra × List Sl)):List Sl → Option (Ra × List Sl):=fun δ=>(fa δ).bind fun p=>match p.1 with
 | .ex c=>some (.ex c,p.2)
 | .ok d=>(fr p.2).map fun q=>match q.1 with
  | .ex c=>(.ex c,q.2)
  | .as l=>(.as (.d d :: l),q.2)
section
variable {X:Cx} {W:WX} {a e:Expr} {es:List Expr} {pos:Pos} {M Ma Mr B:List Nat} {n:Nat}
theorem Zb {f} (h:EV X e f [] M):EVX X W e (xOk f) M:=by
 obtain ⟨t,p,q⟩:=h
 refine ⟨t,p,fun Y F H δ σ A S r δ' e Q k=>?_⟩
 obtain ⟨⟨d,δ1⟩,e1,e2⟩:=Qa.mp e
 cases e2
 exact q Y F H δ σ A S d δ1 e1 Q fun v F' H' st S' r=>k v F' H' st S' r.nil
theorem Q9P {f} (h:CVn X es f [] M n B):CVX X W es (xAs f) M n B:=by
 obtain ⟨⟨t,p,q⟩,hf⟩:=h
 refine ⟨⟨t,p,fun Y F H δ σ A S r δ' e Q k=>?_⟩,fun δ as δ' e=>?_⟩
 ·obtain ⟨⟨d,δ1⟩,e1,e2⟩:=Qa.mp e
  cases e2
  exact q Y F H δ σ A S d δ1 e1 Q k
 ·obtain ⟨⟨d,δ1⟩,e1,e2⟩:=Qa.mp e
  cases e2
  exact hf δ d δ1 e1
theorem Q0U:CVX X W [] (xAs Ve) [] 0 []:=Q9P Yj
theorem Vs {fa fr} (ha:EVX X W a fa Ma) (hr:CVX X W es fr Mr n B) (hs:starEach (a :: es) X.env = (false,eval a X.env) :: starEach es X.env:=by rfl):CVX X W (a :: es) (Ka fa fr) (Ma ++ Mr) (n + 1) B:=by
 obtain ⟨ta,pa,qa⟩:=ha
 obtain ⟨⟨tb,pb,qb⟩,hf⟩:=hr
 refine ⟨⟨_,pa_cons pa pb hs,fun Y F H δ σ A S r δ' e Q k=>?_⟩,fun δ as δ' e=>?_⟩
 ·unfold Ka at e
  cases e1:fa δ with
  | none=>rw [e1] at e; cases e
  | some w =>
   obtain ⟨r1,δ1⟩:=w
   rw [e1] at e
   simp only [Q1] at e
   refine qa Y F H δ σ A S r1 δ1 e1 _ ?_
   cases r1 with
   | ex c =>
    cases e
    exact fun F' H' C st S' hC=>k F' H' C (st.mono fun i hi=>Q7 _ hi) S' hC
   | ok d =>
    intro v F1 H1 st1 S1 rv
    obtain ⟨⟨r2,δ2⟩,e2,e3⟩:=Qa.mp e
    refine qb Y F1 H1 δ1 σ A S1 r2 δ2 e2 _ ?_
    cases r2 with
    | ex c =>
     cases e3
     exact fun F' H' C st S' hC=>k F' H' C (st1.trans S1 st) S' hC
    | as l =>
     cases e3
     exact fun vs F' H' st S' r=>k (v :: vs) F' H' (st1.trans S1 st) S' ⟨.inl (rv.mono st.f),r⟩
 ·unfold Ka at e
  cases e1:fa δ with
  | none=>rw [e1] at e; cases e
  | some w =>
   obtain ⟨r1,δ1⟩:=w
   rw [e1] at e
   simp only [Q1] at e
   cases r1 with
   | ex c=>cases e
   | ok d =>
    obtain ⟨⟨r2,δ2⟩,e2,e3⟩:=Qa.mp e
    cases r2 with
    | ex c=>cases e3
    | as l =>
     cases e3
     obtain ⟨h1,h2⟩:=hf _ _ _ e2
     exact ⟨by rw [Qu,h1],h2⟩
end
structure KnX (X:Cx) (x:Str) (n m:Nat) (mv:Nat → Bool) (fr:FrO) (φ:List Sl → Option (Rs × List Sl)):Prop where
 ex:∃ (k:Nat) (a:Addr) (fd:FuncData) (ps:List Str),FnG X.prog X.w X.K X.mg X.base (L2N.CX X.prog X.w) k a fd ps (spX X.K n m mv fr φ) ∧ ps.length = n ∧ Room k X.A ∧ X.mg x = some (.ref a) ∧ PySem.W.keepIn X.K (.ref a) = true ∧ Binds X.K fd ps []
 gd:X.A.guards = some []
 gl:Gl X x
 db:(x == ("__debug__":Str)) = false
structure KnM (X:Cx) (c mth:Str) (n m:Nat) (mv:Nat → Bool) (fr:FrO) (φ:List Sl → Option (Rs × List Sl)):Prop where
 ex:∃ (C:Addr) (k:Nat) (a:Addr) (fd:FuncData) (ps:List Str),(∀ C',Vf X.K c C' → C' = C) ∧ Cls X.K C ∧ Meth X.K C mth a ∧ FnG X.prog X.w X.K X.mg X.base (L2N.CX X.prog X.w) k a fd ps (spX X.K n m mv fr φ) ∧ ps.length = n ∧ Room k X.A ∧ Binds X.K fd ps []
 gd:X.A.guards = some []
def CPE (X:Cx) (W:WX) (e:Expr) (n m:Nat) (mv:Nat → Bool) (fr:FrO) (φ:List Sl → Option (Rs × List Sl)) (f:List Sl → Option (Ra × List Sl)) (M B:List Nat):Prop :=
 (∃ t,PE X e t ∧ ∀ (Y:Fx) (F H:Hp) (δ:List Sl) (σ:L2.St) (A:Nat → List Addr),SR X.K Y F H δ σ A → ∀ r δ1,f δ = some (r,δ1) → ∀ Q:VK,
  (match r with
   | .as as=>∀ vs F1 H1,Stp A M F H F1 H1 → SR X.K Y F1 H1 δ1 σ A → ArR X.K F1 H1 A [] σ vs as → spX X.K n m mv fr φ vs H1 Q (WE W σ)
   | .ex c=>∀ F' H' C,Stp A M F H F' H' → SR X.K Y F' H' δ1 σ A → Vf X.K c C → W (.ref C) none σ H') → t σ H Q) ∧
 ∀ δ as δ',f δ = some (.as as,δ') → as.length = n ∧ ∀ i ∈ ios as,i ∈ B
section
variable {X:Cx} {W:WX} {x:Str} {o e:Expr} {es:List Expr} {p pos apos:Pos} {n m:Nat} {mv:Nat → Bool} {fr:FrO} {φ:List Sl → Option (Rs × List Sl)} {M B:List Nat}
def NoX:WX:=fun _ _ _ _=>False
theorem Q5n (σ:L2.St):PassesAt (L2N.CX X.prog X.w) X σ (WE NoX σ):=fun pins H s e s' I h=>by
 obtain ⟨_,_,_,_,_,_,_,_,_,_,_,_,z⟩:=h
 exact z.elim
theorem Q1V {f} (hx:∀ σ,PassesAt (L2N.CX X.prog X.w) X σ (WE W σ)) (kn:KnX X x n m mv fr φ) (h:CVX X W (e :: es) f M n B) (h1:starEach (e :: es) X.env = (false,eval e X.env) :: starEach es X.env:=by rfl) (h2:(backTo pos (starEach es X.env)).any (·.1) = false:=by rfl) :
  CPE X W (.Call (.Name x p) (e :: es) [] pos) n m mv fr φ f M B:=by
 obtain ⟨k,a,fd,ps,Fn,hn,hR,hm,hk,hb⟩:=kn.ex
 obtain ⟨⟨t,pa,q⟩,hf⟩:=h
 refine ⟨⟨_,Fn.peS (Es:=WE W) kn.gd hR kn.gl hm hk hb hx pa kn.db h1 h2,fun Y F H δ σ A S r δ1 e Q kk=>?_⟩,hf⟩
 refine q Y F H δ σ A S r δ1 e _ ?_
 cases r with
 | as l=>exact kk
 | ex c=>exact kk
end
def K5 (js:List Nat) (φ:List Sl → Option (Rs × List Sl)) (f:List Sl → Option (Ra × List Sl)):List Sl → Option (Rs × List Sl):=fun δ=>(f δ).bind fun p=>match p.1 with
 | .ex c=>some (.ex c,p.2)
 | .as as=>if Zh js as p.2 && Q2r js as 0 p.2 then (φ (asX js as p.2)).bind fun q=>if Wg js as p.2 q.2 then some (q.1,Wl js as q.2 p.2) else none else none
def okR (g:List Sl → Option (Rs × List Sl)):List Sl → Option (D × List Sl):=fun δ=>(g δ).bind fun p=>match p.1 with
 | .ok d=>some (d,p.2)
 | .ex _=>none
theorem Q2f {js:List Nat} {φ f} {δ δ':List Sl} {r:Rs} (h:K5 js φ f δ = some (r,δ')):(∃ c,r = .ex c ∧ f δ = some (.ex c,δ')) ∨ ∃ as δ1 outs,f δ = some (.as as,δ1) ∧ Zh js as δ1 = true ∧ Q2r js as 0 δ1 = true ∧ φ (asX js as δ1) = some (r,outs) ∧ Wg js as δ1 outs = true ∧ δ' = Wl js as outs δ1:=by
 unfold K5 at h
 cases e1:f δ with
 | none=>rw [e1] at h; cases h
 | some w =>
  obtain ⟨ra,δ1⟩:=w
  rw [e1] at h
  simp only [Q1] at h
  cases ra with
  | ex c=>cases h; exact .inl ⟨c,rfl,rfl⟩
  | as l =>
   simp only at h
   split at h
   ·rename_i ok
    rw [Q4] at ok
    cases e2:φ (asX js l δ1) with
    | none=>rw [e2] at h; cases h
    | some w =>
     obtain ⟨d,outs⟩:=w
     rw [e2] at h
     simp only [Q1] at h
     split at h
     ·rename_i oo
      cases h
      exact .inr ⟨l,δ1,outs,rfl,ok.1,ok.2,e2,oo,rfl⟩
     ·cases h
   ·cases h
section
variable {K:PySem.W.Frag} {Y:Fx} {F H:Hp} {δ:List Sl} {σ:L2.St} {A:Nat → List Addr} {js:List Nat}
theorem SR.behindX0 {vs:List V} {as:List Ar} {F2 H2:Hp} {outs:List Sl} {σ2:L2.St} {A2:Nat → List Addr} (S:SR K Y F H δ σ A) (ok:Zh js as δ = true) (r:ArR K F H A [] σ vs as)
  (st:Q9f (Q0v A as js) (fun _=>false) (as.length + js.length) F H F2 H2) (mr:MvR (Q0v A as js) A2 (fun _=>false) H (vs.map some ++ Q1b js σ) σ2)
  (S2:SR K (Fx.args as.length) F2 H2 outs σ2 A2) (oo:Wg js as δ outs = true):Stp A (ios as ++ js) F H F2 H2 ∧ SR K Y F2 H2 (Wl js as outs δ) σ A:=by
 have b:=S.behindX ok r st mr S2 oo (fun _ z=>by cases z) (fun _ z=>by cases z) (.inl fun _=>rfl)
 obtain ⟨nd,o1,o2,o3⟩:=Q0y ok
 obtain ⟨e1,e2⟩:=mr.same
 subst e1 e2
 have hA:AB js as.length (Q0v A as js) A = A:=by
  funext i
  by_cases c:i ∈ js
  ·rw [Q5l c,Yy,Wa c]
  ·rw [Q1a c]
 have hσ:sgB js as.length (vs.map some ++ Q1b js σ) σ = σ:=by
  apply List.ext_getElem?
  intro i
  by_cases c:i ∈ js
  ·obtain ⟨s,es,_⟩:=o2 i c
   have hl:i < σ.length:=by rw [← S.len]; exact (Q5.mp es).1
   have z:=Q25 (n:=as.length) (σ2:=vs.map some ++ Q1b js σ) c hl
   rw [Ke r (Wa c)] at z
   have hl2:i < (sgB js as.length (vs.map some ++ Q1b js σ) σ).length:=by unfold sgB; rw [Q3,List.length_range]; exact hl
   rw [Q6 hl,Q6 hl2] at z ⊢
   exact congrArg some z
  ·exact Zy c
 rw [hA,hσ] at b
 refine ⟨⟨st.f,fun a e n=>(st.nw a e n).elim id fun ⟨_,z,_⟩=>(by cases z),fun a o e n=>st.kp a o e fun j _ h=>?_⟩,b⟩
 rw [Yy] at h
 split at h
 ·rename_i i ei
  exact n i (V0.mpr ⟨j,ei⟩) h
 ·simp at h
end
section
variable {X:Cx} {W:WX} {e:Expr} {n m:Nat} {φ:List Sl → Option (Rs × List Sl)} {f:List Sl → Option (Ra × List Sl)} {M B js:List Nat}
theorem Q4J {as:List Ar} {i:Nat} (hB:∀ i ∈ ios as,i ∈ B) (hi:i ∈ M ++ (ios as ++ js)):i ∈ M ++ (B ++ js):=by
 rcases Qj.mp hi with h | h
 ·exact Q7 _ h
 ·rcases Qj.mp h with h | h
  ·exact Q8 _ (Q7 _ (hB i h))
  ·exact Q8 _ (Q8 _ h)
theorem Q9B (h:CPE X NoX e n m (fun _=>false) (.f .n) φ f M B) (hj:js.length = m:=by rfl):EV X e (okR (K5 js φ f)) [] (M ++ (B ++ js)):=by
 obtain ⟨⟨t,p,q⟩,hf⟩:=h
 refine ⟨t,p,fun Y F H δ σ A S d δ' e Q k=>?_⟩
 unfold okR at e
 obtain ⟨⟨r,δ2⟩,e1,e2⟩:=Qi.mp e
 rcases Q2f e1 with ⟨c,rfl,_⟩ | ⟨as,δ1,outs,e3,ok,sp,e4,oo,rfl⟩
 ·cases e2
 ·cases r with
  | ex c=>cases e2
  | ok d' =>
   cases e2
   obtain ⟨hn,hB⟩:=hf _ _ _ e3
   refine q Y F H δ σ A S _ δ1 e3 Q fun vs F1 H1 st S1 r=>?_
   subst hj hn
   refine ⟨F1,asX js as δ1,Q0v A as js,Q1b js σ,r.length,by unfold Q1b; rw [Q3],by unfold asX; rw [Qc,Q3,Q3],S1.argsX ok r,.ok d,outs,e4,fun F2 H2 σ2 A2 st2 mr S2 v rv=>?_⟩
   obtain ⟨st3,S3⟩:=S1.behindX0 ok r st2 mr S2 oo
   exact k v F2 H2 ((st.trans S1 st3).mono fun i hi=>Q4J hB hi) S3 (.inl rv)
theorem Q4W (h:CPE X W e n m (fun _=>false) (.f .n) φ f M B) (hj:js.length = m:=by rfl):EVX X W e (K5 js φ f) (M ++ (B ++ js)):=by
 obtain ⟨⟨t,p,q⟩,hf⟩:=h
 refine ⟨t,p,fun Y F H δ σ A S r δ' e Q k=>?_⟩
 rcases Q2f e with ⟨c,rfl,e3⟩ | ⟨as,δ1,outs,e3,ok,sp,e4,oo,rfl⟩
 ·exact q Y F H δ σ A S _ δ' e3 Q fun F' H' C st S' hC=>k F' H' C (st.mono fun i hi=>Q7 _ hi) S' hC
 ·obtain ⟨hn,hB⟩:=hf _ _ _ e3
  refine q Y F H δ σ A S _ δ1 e3 Q fun vs F1 H1 st S1 ra=>?_
  subst hj hn
  refine ⟨F1,asX js as δ1,Q0v A as js,Q1b js σ,ra.length,by unfold Q1b; rw [Q3],by unfold asX; rw [Qc,Q3,Q3],S1.argsX ok ra,r,outs,e4,fun F2 H2 σ2 A2 st2 mr S2=>?_⟩
  obtain ⟨st3,S3⟩:=S1.behindX0 ok ra st2 mr S2 oo
  cases r with
  | ok d=>exact fun v rv=>k v F2 H2 ((st.trans S1 st3).mono fun i hi=>Q4J hB hi) S3 rv
  | ex c=>exact fun C hC=>k F2 H2 C ((st.trans S1 st3).mono fun i hi=>Q4J hB hi) S3 hC
end
end Z
namespace Z
open PySem PySem.Spec PyProof.Rows L2
section
variable {X:Cx} {W:WX} {io:Iom} {vt:Nat → Bool} {fr:FrO} {pos:Pos} {e a b:Expr} {f:List Sl → Option (Rs × List Sl)} {M Ma Mb:List Nat}
def x2 (g:D → D → Option D) (fa:List Sl → Option (Rs × List Sl)) (fb:List Sl → Option (D × List Sl)):List Sl → Option (Rs × List Sl):=fun δ=>(fa δ).bind fun p=>match p.1 with
 | .ex c=>some (.ex c,p.2)
 | .ok d=>(fb p.2).bind fun q=>(g d q.1).map fun z=>(.ok z,q.2)
def Q1t (f:List Sl → Option (Rs × List Sl)):List Sl → Option Ox:=fun δ=>(f δ).map fun p=>match p.1 with
 | .ok _=>.o (.nx p.2)
 | .ex c=>.ex c p.2
theorem Q6v (h:EVX X W e f M) (hs:swapsWith e none pos.line X.env = pure false:=by rfl):SX X W io vt fr (.Expr e pos) (Q1t f):=by
 obtain ⟨t,p,q⟩:=h
 refine ⟨_,ps_expr p hs,fun Y F H δ σ A hY hv S o e D k=>?_⟩
 unfold Q1t at e
 obtain ⟨⟨r,δ1⟩,e1,e2⟩:=Qa.mp e
 refine q Y F H δ σ A S r δ1 e1 _ ?_
 cases r with
 | ok d=>subst e2; exact fun v F1 H1 st S1 _=>k σ F1 H1 A st.f S1
 | ex c=>subst e2; exact fun F1 H1 C st S1 hC=>k σ σ F1 H1 A C st.f (GE.refl _) S1 hC
def Q2A (i:Nat) (f:List Sl → Option (Rs × List Sl)):List Sl → Option Ox:=fun δ=>(f δ).bind fun p=>match p.1 with
 | .ok d=>if i < p.2.length then some (.o (.nx (p.2.set i (.fz d)))) else none
 | .ex c=>some (.ex c p.2)
structure XC (K:PySem.W.Frag) (mg:Str → Option Value) (c:Str):Prop where
 ex:∃ C,mg c = some (.ref C) ∧ Vf K c C ∧ PySem.W.excIn K C [.type "ValueError",.type "Exception",.type "BaseException",.type "object"] "ValueError.__new__" = true ∧ PySem.W.keepIn K (.ref C) = true ∧ PySem.W.subIn K (.ref C) (.type "BaseException") = some true ∧ PySem.W.typeIn K (.ref C) = some (.type "type")
def Zs (c:Str):List Sl → Option Ox:=fun δ=>some (.ex c δ)
theorem K3 {c m:Str} {j:Nat} {p p2 pos':Pos} (hc:X.calm = true) (tk:L2N.Takes X W) (xc:XC X.K X.mg c) (gl:Gl X c:=by rfl) (db:(c == ("__debug__":Str)) = false:=by decide):SX X W io vt fr (.Raise (some (.Call (.Name c p) [.Constant (.str m) j p2] [] pos)) none pos') (Zs c):=by
 obtain ⟨C,h1,h2,h3,h4,h5,h6⟩:=xc.ex
 refine ⟨_,L2N.ps_raise hc tk (L2N.pmk_own PySem.F.excBase_ValueError h3 h1 h4 (raises_own h5 h6) gl db),fun Y F H δ σ A hY hv S o e D k=>?_⟩
 cases e
 exact k σ σ F H A C (Same.refl _) (GE.refl _) S h2
end
end Z
namespace Z
open PySem PySem.Spec PyProof.Rows L2

end Z
namespace Z
open PySem PySem.Spec PyProof.Rows L2
section
variable {K:PySem.W.Frag} {Y:Fx} {F H F' H':Hp} {δ:List Sl} {σ:L2.St} {A:Nat → List Addr}
theorem SR.keep (S:SR K Y F H δ σ A) (f:Same F F') (nw:∀ a,F a = none → F' a ≠ none → H a = none) (kp:∀ a o,H a = some o → H' a = some o) (sub:Same F' H'):SR K Y F' H' δ σ A:=by
 have same:∀ i a,a ∈ A i → H' a = H a:=fun i a m=>by
  obtain ⟨u,q⟩:=(S.there m).some
  rw [q,kp a _ q]
 refine ⟨S.len,fun i s e=>(S.slot i s e).mono f (same i),S.out,S.dis,fun i a m=>?_,S.new,sub,S.fix,S.ioA,fun a o e n=>kp a o (S.kp a o e n),fun a e n=>?_,S.f0.trans f,S.lio,S.obK fun i _ _ _=>same i,S.vno⟩
 ·cases q:F' a with
  | none=>rfl
  | some o=>exact absurd (nw a (S.hid i a m) (by rw [q]; simp)) (S.isSome m)
 ·cases q:F a with
  | some o=>exact S.nw a e (by rw [q]; simp)
  | none=>exact S.fresh0 (nw a q n)
end
section
variable {X:Cx} {W:WX} {io:Iom} {vt:Nat → Bool} {fr:FrO} {pos:Pos} {e:Expr} {es:List Expr} {c x:Str} {sh:List (Str × Bool)} {M B js:List Nat} {n m:Nat} {φ:List Sl → Option (Rs × List Sl)}
structure KnC (X:Cx) (c:Str) (n m:Nat) (mv:Nat → Bool) (φ:List Sl → Option (Rs × List Sl)):Prop where
 ex:∃ (C:Addr) (k:Nat) (a:Addr) (fd:FuncData) (ps:List Str),Vf X.K c C ∧ X.mg c = some (.ref C) ∧ L2.Mk X.K C a ∧ FnG X.prog X.w X.K X.mg X.base (L2N.CX X.prog X.w) k a fd ps (spX X.K n m mv (.f .n) φ) ∧ ps.length = n ∧ Room (k + 1) X.A ∧ Binds X.K fd ps []
 gd:X.A.guards = some []
 gl:Gl X c
 db:(c == ("__debug__":Str)) = false
end
end Z
namespace Z
open PySem PySem.Spec PyProof.Rows L2
section
variable {X:Cx} {W:WX} {io:Iom} {vt:Nat → Bool} {fr:FrO} {pos:Pos} {e:Expr} {es:List Expr} {c x:Str} {sh:List (Str × Bool)} {M B js:List Nat} {n m:Nat} {φ:List Sl → Option (Rs × List Sl)}
theorem Q7I:Passes (L2N.CX X.prog X.w) X (fun _ _ _=>False):=fun pins σ H s e s' I h=>by
 obtain ⟨_,_,_,_,_,_,_,_,_,_,_,_,z⟩:=h
 exact z.elim
end
end Z
namespace Z
open PySem PySem.Spec PyProof.Rows L2


end Z
namespace Z
open PySem PySem.Spec PyProof.Rows L2
structure Q3h (K:PySem.W.Frag) (mg:Str → Option Value) (ns:List Str):Prop where
 b:QaS K ns = true
 m:∀ c C,Vf K c C → mg c = some (.ref C)
section
variable {K:PySem.W.Frag} {mg:Str → Option Value} {ns:List Str}
structure Q9y (K:PySem.W.Frag) (C:Addr):Prop where
 e:PySem.W.excIn K C [.type "ValueError",.type "Exception",.type "BaseException",.type "object"] "ValueError.__new__" = true
 k:PySem.W.keepIn K (.ref C) = true
 s:PySem.W.subIn K (.ref C) (.type "BaseException") = some true
 t:PySem.W.typeIn K (.ref C) = some (.type "type")
 x:ExcC K C
 v:PySem.W.kitOne K (.ref C) (.type "ValueError") = some true
theorem Q4A {C:Addr} (h:Q6A K C = true):Q9y K C:=by
 unfold Q6A at h
 simp only [Q4,beq_iff_eq] at h
 obtain ⟨⟨⟨⟨⟨⟨⟨⟨⟨⟨⟨h1,h2⟩,h3⟩,h4⟩,h5⟩,h6⟩,h7⟩,h8⟩,h9⟩,h10⟩,h11⟩,h12⟩:=h
 have h4':PySem.W.typeIn K (.ref C) = some (.type "type"):=by
  split at h4
  ·rename_i t e; rw [e,beq_iff_eq.mp h4]
  ·cases h4
 have h5':PySem.W.findIn K (.ref C) "__getattribute__" = some (some (.builtin "BaseException.__getattribute__")):=by
  split at h5
  ·rename_i t e; rw [e,beq_iff_eq.mp h5]
  ·cases h5
 have h6':PySem.W.findIn K (.ref C) "__getattr__" = some none:=by
  split at h6
  ·rename_i e; exact e
  ·cases h6
 have h8':PySem.W.findIn K (.ref C) "__class__" = some (some (.builtin "object.__class__")):=by
  split at h8
  ·rename_i t e; rw [e,beq_iff_eq.mp h8]
  ·cases h8
 have h9':PySem.W.specialIn K (.builtin "object.__class__") "__get__" = some (some (.builtin "getset_descriptor.__get__")):=by
  split at h9
  ·rename_i t e; rw [e,beq_iff_eq.mp h9]
  ·cases h9
 exact ⟨h1,h2,h3,h4',⟨h5',h6',h3,h7,h8',h9',h10,h11⟩,h12⟩
theorem Q3h.at_ (T:Q3h K mg ns) {c:Str} (h:ns.contains c = true):∃ C,Vf K c C ∧ mg c = some (.ref C) ∧ Q9y K C ∧ ∀ d,ns.contains d = true → ∃ D,Vf K d D ∧ PySem.W.kitOne K (.ref C) (.ref D) = some (Xf c d) ∧ PySem.W.exmOne K (.ref C) (.ref D) = some (Xf c d):=by
 have q:=Qh.mp T.b c (Ja.mp h)
 split at q
 case h_2=>cases q
 rename_i C e
 rw [Q4] at q
 refine ⟨C,e,T.m c C e,Q4A q.1,fun d hd=>?_⟩
 have q2:=Qh.mp q.2 d (Ja.mp hd)
 split at q2
 case h_2=>cases q2
 rename_i D e2
 rw [Q4,beq_iff_eq,beq_iff_eq] at q2
 exact ⟨D,e2,q2.1,q2.2⟩
theorem Zg {c:Str} {C D:Addr} (h:Vf K c C) (h':Vf K c D):C = D:=by
 unfold Vf at h h'
 rw [h] at h'
 injection h' with h'
 injection h' with h'
 injection h' with h'
theorem Q3h.xc (T:Q3h K mg ns) {c:Str} (h:ns.contains c = true:=by rfl):XC K mg c:=by
 obtain ⟨C,h1,h2,h3,_⟩:=T.at_ h
 exact ⟨C,h2,h1,h3.e,h3.k,h3.s,h3.t⟩
end
section
variable {X:Cx} {W:WX} {io:Iom} {vt:Nat → Bool} {fr:FrO} {st:List Stmt} {g:List Sl → Option Ox}
def tBX (X:Cx) (W:WX) (io:Iom) (vt:Nat → Bool) (fr:FrO) (g:List Sl → Option Ox):TS:=fun D σ H=>∃ (Y:Fx) (F:Hp) (δ:List Sl) (A:Nat → List Addr) (o:Ox),Y.io = io ∧ (∀ i,vt i = true → Y.vt i = true ∧ Y.lt i = false) ∧ SR X.K Y F H δ σ A ∧ g δ = some o ∧ Q3a X Y fr W F D o
theorem BX.pss (h:BX X W io vt fr st g):PSs X st (tBX X W io vt fr g):=by
 obtain ⟨t,p,q⟩:=h
 refine ⟨fun pins s σ H D I ⟨Y,F,δ,A,o,h1,h2,h3,h4,h5⟩=>?_⟩
 exact p.run pins s σ H D I (q Y F H δ σ A h1 h2 h3 o h4 D h5)
def wOx (i:Nat):Ox → Ox
 | .o (.nx δ)=>.o (.nx (δ.set i .no))
 | .o (.ct δ)=>.o (.ct (δ.set i .no))
 | .o (.rt d δ)=>.o (.rt d (δ.set i .no))
 | .ex c δ=>.ex c δ
def Q8F:Ox → Bool
 | .ex _ _=>true
 | _=>false
open Classical in
/-- try: .. except D as x (slot i) -/
noncomputable def Za (ns:List Str) (dc:Str) (i:Nat) (gb:List Sl → Option Ox) (gs:Str → Addr → List Sl → Option Ox):List Sl → Option Ox:=fun δ=>(gb δ).bind fun o=>match o with
 | .ex c δ1=>if ns.contains c then if Xf c dc then if i < δ1.length then if h:∃ r,Q8F r = false ∧ ∀ a,(gs c a (δ1.set i (.xv a))).map (wOx i) = some r then some h.choose else none else none else some (.ex c δ1) else none
 | o=>some o
end
def tSu (X:Cx) (ns:List Str) (io:Iom) (vt:Nat → Bool) (fr:FrO) (gs:Str → List Sl → Option Ox):Value → Option Addr → TS:=fun cls d D σ H=>∃ c C,ns.contains c = true ∧ Vf X.K c C ∧ cls = .ref C ∧ d = none ∧ tsG X (tBX X NoX io vt fr (gs c)) D σ H
theorem Q7i {X:Cx} {D:Ends} {σ:L2.St} {H:Hp} (h:D.nx σ H):(Q6I X D).nx σ H:=⟨σ,GE.refl σ,h⟩
theorem Qa5 {i:Nat} {o:Ox} (h:Q8F (wOx i o) = false):∃ o',o = .o o':=by
 cases o with
 | o o=>exact ⟨o,rfl⟩
 | ex c δ=>cases h
section
variable {X:Cx} {W:WX} {io:Iom} {vt:Nat → Bool} {fr:FrO} {pos pos' np:Pos} {x n dc:Str} {ns:List Str} {body suite:List Stmt} {b₀:Stmt} {i:Nat} {gb:List Sl → Option Ox}
theorem Q6l {gs:Str → Addr → List Sl → Option Ox} (hs:X.stack = X.env :: X.outer) (hf:X.env.frame = some X.env.locals) (T:Q3h X.K X.mg ns) (hd:ns.contains dc = true) (gl:Gl X dc) (db:(dc == ("__debug__":Str)) = false) (hio:io i = false) (tg:Tg X i n) (hln:X.env.kindOf n = some .local) (hl2:Loc X.env.scope n → Vis X.env.scope n) (tk:L2N.Takes X W)
  (hb:∀ (W':WX) (pn:List (Addr × Obj)) (xe:Value → Shared → Prop),L2N.Takes (X.tr pn xe) W' → PassesOwn (model X.prog X.w) X.A X.env xe → BX (X.tr pn xe) W' io vt fr body gb)
  (hsu:∀ (c:Str) (a C:Addr) (oe:Obj) (pn:List (Addr × Obj)),ns.contains c = true → Vf X.K c C → Zc (.ref C) none oe → (∃ vs,oe.data = Data.fields vs) → PySem.PXN.CtxN oe → BX (X.suite a ((a,oe) :: pn)) NoX io vt fr (b₀ :: suite) (gs c a)) :
  SX X W io vt fr (.Try body [.ExceptHandler (some (.Name dc np)) (some n) (b₀ :: suite) pos'] [] [] pos) (Za ns dc i gb gs):=by
 obtain ⟨D0,hD1,hD2,hD3,_⟩:=T.at_ hd
 refine ⟨_,L2N.ps_try_as (c:=.ref D0) (tb:=fun W'=>tBX X W' io vt fr gb) (ts:=fun a=>tSu X ns io vt fr (fun c=>gs c a)) hs hf tg.nd tg.at_ hln ⟨gl,db,.inl hD2⟩ tk (fun W' pn xe h1 h2=>(hb W' pn xe h1 h2).pss) (fun a oe cls d pn hz hf'=>?_),fun Y F H δ σ A hY hv S o e D k=>?_⟩
 ·refine ⟨fun pins s σ H D I ⟨c,C,q1,q2,q3,q4,q5⟩=>?_⟩
  subst q3 q4
  exact (Q9K (hsu c a C oe pn q1 q2 hz.zc hf' hz.2.2).pss).run pins s σ H D I q5
 unfold Za at e
 obtain ⟨ob,e1,e2⟩:=Qi.mp e
 refine ⟨Y,F,δ,A,ob,hY,hv,S,e1,?_⟩
 cases ob with
 | o o1=>cases e2; cases o1 <;> exact k
 | ex c δ1 =>
  simp only at e2
  split at e2
  case isFalse=>cases e2
  rename_i hc
  intro σ0 σ' F' H' A' C sF hge S' hC
  obtain ⟨C',c1,c2,c3,c4⟩:=T.at_ hc
  have:=Zg hC c1
  subst this
  obtain ⟨D1,d1,d2,d3⟩:=c4 dc hd
  have:=Zg d1 hD1
  subst this
  split at e2
  ·rename_i hsub
   split at e2
   case isFalse=>cases e2
   rename_i hi
   split at e2
   case isFalse=>cases e2
   rename_i hex
   cases e2
   obtain ⟨r1,r2⟩:=hex.choose_spec
   refine ⟨true,by rw [d3,hsub],fun _ a ha=>?_,fun z=>(by cases z)⟩
   have ra:=r2 a
   obtain ⟨og,eg,ew⟩:=Qa.mp ra
   obtain ⟨og',rfl⟩:=Qa5 (by rw [ew]; exact r1)
   have hio':Y.io i = false:=by rw [hY]; exact hio
   have S2:=S'.put (i:=i) hi hio' (s:=.xv a) (v:=some (.ref a)) (l:=[]) (fun _ _=>by simp) ⟨rfl,rfl⟩ (by simp) (by simp) (by simp)
   refine ⟨c,C,hc,hC,rfl,rfl,σ'.set i (some (.ref a)),⟨by rw [Jl,Jl]; exact hge.1,fun k' y hy vy=>?_⟩,Y,F',δ1.set i (.xv a),_,.o og',hY,hv,S2,eg,?_⟩
   ·by_cases c5:k' = i
    ·subst c5
     have l1:k' < σ'.length:=by rw [← S'.len]; exact hi
     rw [Qp l1,Qp (by rw [← hge.1]; exact l1)]
    ·rw [Qk (Ne.symm c5),Qk (Ne.symm c5)]
     exact hge.2 k' y hy vy
   have k:=k.mono sF
   rw [← ew] at k
   have fin:∀ {σ2:L2.St} {F2 H2:Hp} {δ2:List Sl} {A2:Nat → List Addr},SR X.K Y F2 H2 δ2 σ2 A2 → ∃ A3,SR X.K Y F2 H2 (δ2.set i .no) (σ2.set i none) A3:=fun {σ2 F2 H2 δ2 A2} S3=>by
    by_cases hl:i < δ2.length
    ·exact ⟨_,S3.putNo hl hio'⟩
    ·refine ⟨A2,?_⟩
     rw [List.set_eq_of_length_le (by omega),List.set_eq_of_length_le (by rw [← S3.len]; omega)]
     exact S3
   have fin2:∀ {σ2:L2.St} {F2 H2:Hp} {δ2:List Sl} {A2:Nat → List Addr},SR X.K Y F2 H2 δ2 σ2 A2 → ∃ A3,SR X.K Y F2 H2 (δ2.set i .no) σ2 A3 ∧ ∀ j,j ≠ i → A3 j = A2 j:=fun {σ2 F2 H2 δ2 A2} S3=>by
    by_cases hl:i < δ2.length
    ·exact ⟨_,S3.wipe1 hl hio',fun j hj=>Kz hj⟩
    ·refine ⟨A2,?_,fun _ _=>rfl⟩
     rw [List.set_eq_of_length_le (by omega)]
     exact S3
   cases og' with
   | nx δ2 =>
    intro σ2 F2 H2 A2 s2 S3
    obtain ⟨A3,S4⟩:=fin S3
    exact Q7i (D:={ nx:=fun σ' H'=>D.nx (σ'.set i none) H',rt:=D.rt,bk:=fun σ' H'=>D.bk (σ'.set i none) H',ct:=fun σ' H'=>D.ct (σ'.set i none) H' }) (k (σ2.set i none) F2 H2 A3 s2 S4)
   | ct δ2 =>
    intro σ2 F2 H2 A2 s2 S3
    obtain ⟨A3,S4⟩:=fin S3
    exact ⟨σ2,GE.refl σ2,k (σ2.set i none) F2 H2 A3 s2 S4⟩
   | rt d δ2 =>
    intro v σ2 F2 H2 A2 s2 S3 rr
    obtain ⟨A3,S4,hA⟩:=fin2 S3
    refine k v σ2 F2 H2 A3 s2 S4 ?_
    have ne:∀ j,Y.io j = true → j ≠ i:=fun j hj z=>by rw [z,hio'] at hj; cases hj
    cases fr with
    | o c' sh=>exact rr
    | f f0 =>
     cases f0 with
     | n=>exact rr
     | t=>exact rr
     | l =>
      obtain ⟨p,g1,g2,g3,g4,g5⟩:=rr
      exact ⟨p,g1,g2,g3,fun j hj=>by rw [hA j (ne j hj)]; exact g4 j hj,g5⟩
     | p =>
      obtain ⟨a',p',q',d0,d1,rv,rd,ha,ne',⟨h0,hF,h4,ow⟩,h1,hF1,h5,ow1⟩:=rr
      exact ⟨a',p',q',d0,d1,rv,rd,ha,ne',⟨h0,hF,fun j hj=>by rw [hA j (ne j hj)]; exact h4 j hj,ow⟩,h1,hF1,fun j hj=>by rw [hA j (ne j hj)]; exact h5 j hj,ow1⟩
     | s j =>
      obtain ⟨g1,g2,p,g3,g4⟩:=rr
      exact ⟨g1,g2,p,g3,by rw [hA j (ne j g2)]; exact g4⟩
  ·rename_i hsub
   cases e2
   refine ⟨false,by rw [d3]; simpa using hsub,fun z=>(by cases z),fun _=>?_⟩
   exact k σ0 σ' F' H' A' C sF hge S' hC
end
end Z
namespace Z
open PySem PySem.Spec PyProof.Rows L2
def fXv (i:Nat) (a:Addr) (b:Bool):List Sl → Option (D × List Sl):=fun δ=>match δ[i]? with
 | some (.xv a')=>if a' = a then some (.bool b,δ) else none
 | _=>none
theorem Q49 {i:Nat} {a:Addr} {b:Bool} {δ:List Sl} {r:D × List Sl} (h:fXv i a b δ = some r):δ[i]? = some (.xv a) ∧ r = (.bool b,δ):=by
 unfold fXv at h
 split at h
 ·rename_i a' e
  split at h
  ·rename_i c; subst c; exact ⟨e,(Qs.inj h).symm⟩
  ·cases h
 ·cases h
theorem K7 {i:Nat} {a:Addr} {b:Bool} {δ:List Sl} (h:δ[i]? = some (.xv a):=by rfl):fXv i a b δ = some (.bool b,δ):=by
 unfold fXv
 rw [h]
 simp
section
variable {X:Cx} {a C:Addr} {oe:Obj} {pn:List (Addr × Obj)} {c d ex:Str} {ns:List Str} {i:Nat} {p p1 p2 pos:Pos}
theorem Vv (T:Q3h X.K X.mg ns) (hc:ns.contains c = true) (hC:Vf X.K c C) (hz:Zc (.ref C) none oe) (hf:∃ vs,oe.data = Data.fields vs) (b:Bn (X.suite a ((a,oe) :: pn)) "isinstance" (.builtin "isinstance")) (n:Nm (X.suite a ((a,oe) :: pn)) i ex) (gl:Gl X d) (db:(d == ("__debug__":Str)) = false) (hd:ns.contains d = true)
  (h1:starEach [.Name ex p1,.Name d p2] X.env = (false,eval (.Name ex p1) X.env) :: starEach [.Name d p2] X.env) (h2:(backTo pos (starEach [.Name d p2] X.env)).any (·.1) = false) (h3:starEach [.Name d p2] X.env = [(false,eval (.Name d p2) X.env)]) :
  EV (X.suite a ((a,oe) :: pn)) (.Call (.Name "isinstance" p) [.Name ex p1,.Name d p2] [] pos) (fXv i a (Xf c d)) [] []:=by
 obtain ⟨C',k1,k2,k3,k4⟩:=T.at_ hc
 have:=Zg hC k1
 subst this
 obtain ⟨D0,d1,d2,d3⟩:=k4 d hd
 have mD:X.mg d = some (.ref D0):=T.m d D0 d1
 have pD:PE (X.suite a ((a,oe) :: pn)) (.Name d p2) (tC (.ref D0)):=pe_glob (v:=V.ref D0) gl mD rfl db
 refine ⟨_,pe_callB (call_isE (pn:=pn) k3.x hz hf) b.gl b.mg b.bt (pa_cons n.pe (pa_cons pD pa_nil h3) h1) b.nn b.db h1 h2,fun Y F H δ σ A S z δ' e Q k=>?_⟩
 obtain ⟨e1,e2⟩:=Q49 e
 cases e2
 obtain ⟨_,v1⟩:=S.slot i _ e1
 exact ⟨.ref a,Yr v1,.ref D0,.ref D0,Xf c d,rfl,fun u z=>(by cases z; rfl),d2,k _ F H Stp.refl S (.inl (.bl _))⟩
theorem Q95 (T:Q3h X.K X.mg ns) (hc:ns.contains c = true) (hC:Vf X.K c C) (hz:Zc (.ref C) none oe) (hf:∃ vs,oe.data = Data.fields vs) (b:Bn (X.suite a ((a,oe) :: pn)) "isinstance" (.builtin "isinstance")) (n:Nm (X.suite a ((a,oe) :: pn)) i ex) (v:Bn (X.suite a ((a,oe) :: pn)) "ValueError" (.type "ValueError"))
  (h1:starEach [.Name ex p1,.Name "ValueError" p2] X.env = (false,eval (.Name ex p1) X.env) :: starEach [.Name "ValueError" p2] X.env) (h2:(backTo pos (starEach [.Name "ValueError" p2] X.env)).any (·.1) = false) (h3:starEach [.Name "ValueError" p2] X.env = [(false,eval (.Name "ValueError" p2) X.env)]) :
  EV (X.suite a ((a,oe) :: pn)) (.Call (.Name "isinstance" p) [.Name ex p1,.Name "ValueError" p2] [] pos) (fXv i a true) [] []:=by
 obtain ⟨C',k1,k2,k3,k4⟩:=T.at_ hc
 have:=Zg hC k1
 subst this
 have pD:PE (X.suite a ((a,oe) :: pn)) (.Name "ValueError" p2) (tC (.ty "ValueError")):=pe_bltn v.gl v.mg v.bt rfl v.nn v.db
 refine ⟨_,pe_callB (call_isE (pn:=pn) k3.x hz hf) b.gl b.mg b.bt (pa_cons n.pe (pa_cons pD pa_nil h3) h1) b.nn b.db h1 h2,fun Y F H δ σ A S z δ' e Q k=>?_⟩
 obtain ⟨e1,e2⟩:=Q49 e
 cases e2
 obtain ⟨_,v1⟩:=S.slot i _ e1
 exact ⟨.ref a,Yr v1,.ty "ValueError",.type "ValueError",true,rfl,fun u z=>(by cases z; rfl),k3.v,k _ F H Stp.refl S (.inl (.bl _))⟩
inductive Q5Y (X:Cx) (ns:List Str):List Expr → List Str → Prop
 | nil:Q5Y X ns [] []
 | cons {d:Str} {p:Pos} {es:List Expr} {ds:List Str}:ns.contains d = true → Gl X d → (d == ("__debug__":Str)) = false → starEach (.Name d p :: es) X.env = (false,eval (.Name d p) X.env) :: starEach es X.env → Q5Y X ns es ds → Q5Y X ns (.Name d p :: es) (d :: ds)
def QbR (us:List Addr):TA:=fun _ H Q=>Q (us.map V.ref) H
theorem Q5Y.pa {X:Cx} {ns:List Str} (T:Q3h X.K X.mg ns):∀ {es:List Expr} {ds:List Str},Q5Y X ns es ds → ∃ us:List Addr,us.length = ds.length ∧ (∀ (k:Nat) D d,us[k]? = some D → ds[k]? = some d → ns.contains d = true ∧ Vf X.K d D) ∧ PA X es (QbR us)
 | _,_,.nil=>⟨[],rfl,fun k D d e=>by simp at e,pa_nil⟩
 | _,_,.cons (d:=d) hd gl db hs r=>by
  obtain ⟨us,h1,h2,h3⟩:=Q5Y.pa T r
  obtain ⟨D,d1,d2,_⟩:=T.at_ hd
  refine ⟨D :: us,congrArg (· + 1) h1,fun k D' d' e1 e2=>?_,pa_cons (pe_glob (v:=V.ref D) gl d2 rfl db) h3 hs⟩
  cases k with
  | zero=>cases e1; cases e2; exact ⟨hd,d1⟩
  | succ k=>exact h2 k D' d' e1 e2
end
end Z
namespace Z
open PySem PySem.Spec PyProof.Rows L2

section
variable {X:Cx} {o e:Expr} {fo fe:List Sl → Option (D × List Sl)} {Ro Re Mo Me:List Nat} {apos pos:Pos}
def Qby (ds:List (D × D)) (k:Key):List (D × D):=ds.filter fun p=>decide (W1 p.1 ≠ some k)
theorem RpK.drop {K:PySem.W.Frag} {G:Hp} (k:Key):∀ {kvs:List (Key × V)} {ds:List (D × D)},RpK K G kvs ds → RpK K G (dropK kvs k) (Qby ds k)
 | _,_,.nil=>.nil
 | _,_,.cons (k:=k0) h r=>by
  unfold dropK Qby
  rw [List.filter_cons,List.filter_cons]
  simp only [Xy]
  by_cases e:k0 = k
  ·simp only [e,ne_eq,not_true_eq_false,decide_false,J1,if_false]
   exact r.drop k
  ·simp only [ne_eq,e,not_false_eq_true,decide_true,if_true,Qs.injEq]
   exact .cons h (r.drop k)
end
end Z
namespace Z
open PySem PySem.Spec PyProof.Rows L2
section
variable {X:Cx} {W:WX} {e kx:Expr} {es:List Expr} {pos spos np:Pos} {x:Str}
structure TabOk (P:Program) (w:World) (K:PySem.W.Frag) (mg:Str → Option Value) (base:Heap) (x:Str) (kk n m:Nat) (tab:List (Str × (List Sl → Option (Rs × List Sl)))):Prop where
 ex:∃ p:Addr,mg x = some (.ref p) ∧ ∀ z φ,tab.lookup z = some φ → ∃ (a:Addr) (fd:FuncData) (ps:List Str),KDct K w p z (.ref a) ∧ FnG P w K mg base (L2N.CX P w) kk a fd ps (spX K n m (fun _=>false) (.f .n) φ) ∧ ps.length = n ∧ PySem.W.keepIn K (.ref a) = true ∧ Binds K fd ps []
end
structure GX (P:Program) (w:World) (K:PySem.W.Frag) (mg:Str → Option Value) (base:Heap) (x:Str) (k n m:Nat) (mv:Nat → Bool) (fr:FrO) (φ:List Sl → Option (Rs × List Sl)):Prop where
 ex:∃ (a:Addr) (fd:FuncData) (ps:List Str),FnG P w K mg base (L2N.CX P w) k a fd ps (spX K n m mv fr φ) ∧ ps.length = n ∧ mg x = some (.ref a) ∧ PySem.W.keepIn K (.ref a) = true ∧ Binds K fd ps []
structure GM (P:Program) (w:World) (K:PySem.W.Frag) (mg:Str → Option Value) (base:Heap) (c mth:Str) (k n m:Nat) (mv:Nat → Bool) (fr:FrO) (φ:List Sl → Option (Rs × List Sl)):Prop where
 ex:∃ (C a:Addr) (fd:FuncData) (ps:List Str),Vf K c C ∧ Cls K C ∧ Meth K C mth a ∧ FnG P w K mg base (L2N.CX P w) k a fd ps (spX K n m mv fr φ) ∧ ps.length = n ∧ Binds K fd ps []
structure GI (P:Program) (w:World) (K:PySem.W.Frag) (mg:Str → Option Value) (base:Heap) (c:Str) (k n m:Nat) (mv:Nat → Bool) (φ:List Sl → Option (Rs × List Sl)):Prop where
 ex:∃ (C a:Addr) (fd:FuncData) (ps:List Str),Vf K c C ∧ mg c = some (.ref C) ∧ L2.Mk K C a ∧ FnG P w K mg base (L2N.CX P w) k a fd ps (spX K n m mv (.f .n) φ) ∧ ps.length = n ∧ Binds K fd ps []
section
variable {X:Cx} {x c mth:Str} {k j n m:Nat} {mv:Nat → Bool} {fr:FrO} {φ:List Sl → Option (Rs × List Sl)}
theorem GX.kn (g:GX X.prog X.w X.K X.mg X.base x k n m mv fr φ) (hR:Room j X.A) (hG:X.A.guards = some []) (gl:Gl X x:=by rfl) (hk:k ≤ j:=by decide) (db:(x == ("__debug__":Str)) = false:=by decide):KnX X x n m mv fr φ:=by
 obtain ⟨a,fd,ps,h1,h2,h3,h4,h5⟩:=g.ex
 exact ⟨⟨k,a,fd,ps,h1,h2,hR.mono hk,h3,h4,h5⟩,hG,gl,db⟩
theorem GM.kn (g:GM X.prog X.w X.K X.mg X.base c mth k n m mv fr φ) (hR:Room j X.A) (hG:X.A.guards = some []) (hk:k ≤ j:=by decide):KnM X c mth n m mv fr φ:=by
 obtain ⟨C,a,fd,ps,h1,h2,h3,h4,h5,h6⟩:=g.ex
 exact ⟨⟨C,k,a,fd,ps,fun C' h=>Zg h h1,h2,h3,h4,h5,hR.mono hk,h6⟩,hG⟩
theorem GI.kn (g:GI X.prog X.w X.K X.mg X.base c k n m mv φ) (hR:Room j X.A) (hG:X.A.guards = some []) (gl:Gl X c:=by rfl) (hk:k + 1 ≤ j:=by decide) (db:(c == ("__debug__":Str)) = false:=by decide):KnC X c n m mv φ:=by
 obtain ⟨C,a,fd,ps,h1,h2,h3,h4,h5,h6⟩:=g.ex
 exact ⟨⟨C,k,a,fd,ps,h1,h2,h3,h4,h5,hR.mono hk,h6⟩,hG,gl,db⟩
end
end Z
namespace Z
open PySem PySem.Spec PyProof.Rows L2
mutual
def ndD:D → Bool
 | .list xs=>ndL xs
 | .tuple xs=>ndL xs
 | .dict _=>false
 | _=>true
def ndL:List D → Bool
 | []=>true
 | x :: r=>ndD x && ndL r
end
def ndV:List (D × D) → Bool
 | []=>true
 | x :: r=>ndD x.2 && ndV r
def rmH (F:Hp) (q:Addr):Hp:=fun a=>if a = q then none else F a
theorem Q4I {F:Hp} {q a:Addr} (h:a ≠ q):rmH F q a = F a:=if_neg h
section
variable {K:PySem.W.Frag} {G:Hp} {q:Addr} {oq:Obj} {kq:List (Key × V)}
theorem Qaq (hq:G q = some (.frz oq (.dK kq))) {a:Addr} {xs:List V} (h:SqT K G a xs):SqT K (rmH G q) a xs:=by
 rcases h with h | h
 ·rcases h with h | ⟨o,h⟩
  ·exact .inl (.inl (by rw [Q4I]; exact h; intro z; subst z; rw [hq] at h; cases h))
  ·exact .inl (.inr ⟨o,by rw [Q4I]; exact h; intro z; subst z; rw [hq] at h; cases h⟩)
 ·exact .inr h
mutual
theorem Rp.rm (hq:G q = some (.frz oq (.dK kq))):∀ {v:V} {d:D},Rp K G v d → ndD d = true → Rp K (rmH G q) v d
 | _,_,.non,_=>.non
 | _,_,.bl b,_=>.bl b
 | _,_,.int i,_=>.int i
 | _,_,.str x,_=>.str x
 | _,_,.lst h r,n=>.lst (by rw [Q4I]; exact h; intro z; subst z; rw [hq] at h; cases h) (Rps.rm hq r (by unfold ndD at n; exact n))
 | _,_,.tup h r,n=>.tup (Qaq hq h) (Rps.rm hq r (by unfold ndD at n; exact n))
 | _,_,.dic h r,n=>by unfold ndD at n; cases n
theorem Rps.rm (hq:G q = some (.frz oq (.dK kq))):∀ {vs:List V} {ds:List D},Rps K G vs ds → ndL ds = true → Rps K (rmH G q) vs ds
 | _,_,.nil,_=>.nil
 | _,_,.cons h r,n=>.cons (Rp.rm hq h (by unfold ndL at n; rw [Q4] at n; exact n.1)) (Rps.rm hq r (by unfold ndL at n; rw [Q4] at n; exact n.2))
theorem RpK.rm (hq:G q = some (.frz oq (.dK kq))):∀ {vs:List (Key × V)} {ds:List (D × D)},RpK K G vs ds → ndV ds = true → RpK K (rmH G q) vs ds
 | _,_,.nil,_=>.nil
 | _,_,.cons h r,n=>.cons (Rp.rm hq h (by unfold ndV at n; rw [Q4] at n; exact n.1)) (RpK.rm hq r (by unfold ndV at n; rw [Q4] at n; exact n.2))
end
end

end Z
namespace Z
open PySem PySem.Spec PyProof.Rows L2

section
variable {X:Cx} {io:Iom} {fr:Fr} {x:Str} {i:Nat} {ea eb v:Expr} {fa fb fv:List Sl → Option (D × List Sl)} {M:List Nat} {p1 p2 tpos pos:Pos}
structure PcS (X:Cx) (o i:Expr) (v:Expr) (tpos:Pos) (line:Nat):Prop where
 sw:swapsWithSole [.Subscript o i tpos] v line X.env = pure false
 st:swappedStores [.Subscript o i tpos] v X.env = pure none
 ea:(assignEach [.Subscript o i tpos] X.env).map (·.2) = [assign (.Subscript o i tpos) X.env]
 as:∀ u,assign (.Subscript o i tpos) X.env u = (do
   let ov ← holding [u] (eval o X.env)
   let iv ← holding [u,ov] (eval i X.env)
   standAt tpos
   holding [u,ov,iv] (setItem ov iv u)
   release [iv,u,ov] [])
end
end Z
namespace Z
open PySem PySem.Spec PyProof.Rows L2

def Qbs (sg:List Bool) (n m t:Nat) (vl:List Nat):Bool:=decide (sg.length = n + m) && decide (n + m ≤ t) && ((Jn (n + m)).all fun i=>decide (i < n) || Y7 sg i) && vl.all fun i=>decide (n + m ≤ i) && decide (i < t)
theorem Q3G {sg:List Bool} {n m t:Nat} {vl:List Nat} (h:Qbs sg n m t vl = true):XOk sg n m t vl (fun _=>false):=by
 unfold Qbs at h
 simp only [Q4,decide_eq_true_eq] at h
 obtain ⟨⟨⟨h1,h2⟩,h3⟩,h4⟩:=h
 refine ⟨h1,h2,fun i a b=>?_,fun i hi=>?_,fun i z=>by cases z⟩
 ·have:=Qh.mp h3 i (List.mem_range.mpr b)
  rw [J3,decide_eq_true_eq] at this
  exact this.resolve_left (by omega)
 ·have:=Qh.mp h4 i (Ja.mp hi)
  rw [Q4,decide_eq_true_eq,decide_eq_true_eq] at this
  exact this
def hvB (N:List Str) (sc:Scope) (n m:Nat):Bool:=(Jn (n + m)).all fun i=>decide (i < n) || match N[i]? with
 | some y=>(sc.names.lookup y).isNone
 | none=>true
theorem Q5c {N:List Str} {sc:Scope} {n m:Nat} (h:hvB N sc n m = true):∀ (i:Nat) (y:Str),n ≤ i → i < n + m → N[i]? = some y → sc.names.lookup y = none:=fun i y a b e=>by
 have:=Qh.mp h i (List.mem_range.mpr b)
 rw [J3,decide_eq_true_eq,e] at this
 exact Option.isNone_iff_eq_none.mp (this.resolve_left (by omega))
end Z
namespace Z
open PySem PySem.Spec PyProof.Rows L2 He
theorem FnG.mono {P:Program} {w:World} {K:PySem.W.Frag} {mg:Str → Option Value} {base:Heap} {CX:CXT} {j k:Nat} {f:Addr} {fd:FuncData} {ps:List Str} {sp:Sp} (F:FnG P w K mg base CX j f fd ps sp) (h:j ≤ k):FnG P w K mg base CX k f fd ps sp :=
 ⟨F.len,fun A out s G ar ws us Q E hg hR=>F.run A out s G ar ws us Q E hg (hR.mono h)⟩
def Vh (K:PySem.W.Frag) (x d:String) (st:Stmt):Prop:=∃ (f:Addr) (fd:FuncData),PySem.W.nsIn K mainGlobals x = some (some (.ref f)) ∧ Fun K d d st f fd
theorem Qa1 {K:PySem.W.Frag} {x d:String} {st:Stmt} {f:Addr} {od an:Option Addr} {sl:Array (Option Value)} {oc kV dc pm cd ct:Value} (a:PySem.W.nsIn K mainGlobals x = some (some (.ref f))) (l:K.lookup f = some ⟨oc,od,.func (PySem.W.fnOf d d (defArgs st) (defBody st) (defScope st) .none kV dc pm an cd ct),sl⟩) (c:PySem.W.codeIn K cd d = true) (k:PySem.W.keepIn K (.ref f) = true):Vh K x d st:=⟨f,_,a,fun_mk l c k⟩
theorem Ye {K:PySem.W.Frag} {x d:String} {st:Stmt} {h:Heap} {mg:Str → Option Value} {p:Prop} (F:Vh K x d st) (X:K.In h) (G:h.Ns mainGlobals mg) (q:∀ {f:Addr} {fd:FuncData},Fun K d d st f fd → mg x = some (.ref f) → p):p:=let ⟨_,_,a,u⟩:=F; q u (PySem.W.mg_of X G a)
structure QbJ (K:PySem.W.Frag) (c:String) (C:Addr):Prop where
 at_:PySem.W.nsIn K mainGlobals c = some (some (.ref C))
 cl:Cls K C
def Q2L (K:PySem.W.Frag) (u:Value) (d:D):Prop:=(kRp K 40 u).map (·.2) = some d
inductive QaL (P:Program) (w:World) (K:PySem.W.Frag) (mg:Str → Option Value) (base:Heap) (p:Addr) (kk n m:Nat):List (Str × (List Sl → Option (Rs × List Sl))) → Prop
 | nil:QaL P w K mg base p kk n m []
 | cons {z x:Str} {a:Addr} {φ:List Sl → Option (Rs × List Sl)} {k:Nat} {r:List (Str × (List Sl → Option (Rs × List Sl)))} (g:GX P w K mg base x k n m (fun _=>false) (.f .n) φ) (hk:k ≤ kk) (hm:mg x = some (.ref a)) (hz:PySem.W.nsIn K p z = some (some (.ref a))) (t:QaL P w K mg base p kk n m r):QaL P w K mg base p kk n m ((z,φ) :: r)
end Z
namespace Z
open PySem PySem.Spec PyProof.Rows L2

end Z
namespace Z
open PySem PySem.Spec PyProof.Rows L2 He
section
variable {fa:List Fa} {fn:List DefD} {ts:List He.Tab} {ex:PySem.W.Frag → Bool} {cs:List (Str × D)} {w:World} {K:PySem.W.Frag}
theorem Q6U {x qn:Str} {st:Stmt} {f:Addr} {fd:FuncData} (F:FunD K x qn (defArgs st) (defBody st) (defScope st) [] [] f fd):∃ (oc:Value) (od an:Option Addr) (kV dc pm cd ct:Value) (sl:Array (Option Value)),K.lookup f = some ⟨oc,od,.func (PySem.W.fnOf x qn (defArgs st) (defBody st) (defScope st) .none kV dc pm an cd ct),sl⟩ ∧ PySem.W.codeIn K cd qn = true ∧ PySem.W.keepIn K (.ref f) = true:=by
 obtain ⟨⟨oc,od,dV,kV,dc,pm,an,cd,ct,sl,e,l,c,d,_⟩,kp⟩:=F
 rcases d with ⟨_,d⟩ | ⟨d,_⟩
 ·subst d; subst e
  exact ⟨oc,od,an,kV,dc,pm,cd,ct,sl,l,c,kp⟩
 ·exact absurd rfl d
theorem Vg.gl (c:Vg fa fn ts ex cs w K) (i:Nat) {x:Str} (h:fa[i]? = some (.glo x):=by rfl):PySem.W.nsIn K mainGlobals x = some (some (.ref (ga K x))):=eqO_ok (c.t.d.fact i h)
theorem Vg.fr (c:Vg fa fn ts ex cs w K) (i:Nat) {x:Str} (h:fa[i]? = some (.free x):=by rfl):PySem.W.nsIn K mainGlobals x = some none:=eqO_ok (c.t.d.fact i h)
theorem Vg.no (c:Vg fa fn ts ex cs w K) (i:Nat) {x f:Str} (h:fa[i]? = some (.noat x f):=by rfl):PySem.W.findIn K (.ref (ga K x)) f = some none:=eqO_ok (c.t.d.fact i h)
theorem Vg.cl (c:Vg fa fn ts ex cs w K) (i j:Nat) {x:String} (h:fa[i]? = some (.glo x):=by rfl) (h2:fa[j]? = some (.cls x):=by rfl):QbJ K x (ga K x):=⟨c.gl i h,cls_ok (c.t.d.fact j h2)⟩
theorem Vg.fd (c:Vg fa fn ts ex cs w K) (i j:Nat) {x d:String} {st:Stmt} (h:fa[i]? = some (.glo x):=by rfl) (h2:fn[j]? = some (dt x d st):=by rfl):Vh K x d st:=by
 obtain ⟨fd,F⟩:=c.t.d.def_ j h2
 obtain ⟨oc,od,an,kV,dc,pm,cd,ct,sl,l,k,kp⟩:=Q6U F
 exact Qa1 (c.gl i h) l k kp
theorem Vg.law (c:Vg fa fn ts ex cs w K) (j:Nat) {x d:String} {st:Stmt} (h2:fn[j]? = some (dt x d st):=by rfl):∃ (oc:Value) (od an:Option Addr) (kV dc pm cd ct:Value) (sl:Array (Option Value)),K.lookup (ga K x) = some ⟨oc,od,.func (PySem.W.fnOf d d (defArgs st) (defBody st) (defScope st) .none kV dc pm an cd ct),sl⟩ ∧ PySem.W.codeIn K cd d = true ∧ PySem.W.keepIn K (.ref (ga K x)) = true:=by
 obtain ⟨fd,F⟩:=c.t.d.def_ j h2
 exact Q6U F
theorem Vg.con (c:Vg fa fn ts ex cs w K) (i:Nat) {x:Str} {d:D} (h:cs[i]? = some (x,d):=by rfl):∃ u,PySem.W.nsIn K mainGlobals x = some (some u) ∧ Q2L K u d:=by
 have e:=c.cs
 have e2:(cs.map fun c=>Q7f K c.1)[i]? = (cs.map fun c=>some c.2)[i]?:=by rw [e]
 rw [Qd,Qd,h] at e2
 have e3:Q7f K x = some d:=Qs.inj e2
 unfold Q7f at e3
 split at e3
 ·rename_i u q
  exact ⟨u,q,e3⟩
 ·cases e3
theorem Vg.tb (c:Vg fa fn ts ex cs w K) (i:Nat) {t:Str} {ks:List Str} (h:ts[i]? = some (fun K=>ga K t,ks):=by rfl):dicW K (ga K t) = some (keysIn w.params ks):=by
 have e:ts.map (fun t=>dicW K (t.1 K)) = ts.map fun t=>some (keysIn w.params t.2):=congrArg (fun z:AlT=>z.2) c.t
 have e2:(ts.map fun t=>dicW K (t.1 K))[i]? = (ts.map fun t=>some (keysIn w.params t.2))[i]?:=by rw [e]
 rw [Qd,Qd,h] at e2
 exact Qs.inj e2
end
theorem zwalkE {l:PySem.W.OpenLaw} {n k:Nat} {q:Program} {loose:List Str} {XP:(Str → Option Value) → Heap → Prop} {YP:World → Heap → Prop} {d:DefRec} {φ:List Sl → Option (D × List Sl)} {x:Str}
  (hn:l.most = some n) (hn2:n ≤ sizeLine) (hdf:d.params.defaults = []) (hr:Room k callerA)
  (Fn:∀ (w:World) (mg:Str → Option Value) (fa:Addr) (h:Heap),YP w h → h.Ns mainGlobals mg → mg d.name = some (.ref fa) → ∃ K:PySem.W.Frag,K.In h ∧
   ∃ fd:FuncData,(∀ (s:Shared) (u:Value),BindsTo s fd ⟨[u],[]⟩ [(x,u)]) ∧ ∀ base:Heap,K.In base → base.Ns mainGlobals mg → FnG l.prog w K mg base CX0 k fa fd [x] (spF K 1 .n φ))
  (hφ:∀ ns:List Int,ns.length ≤ n → ∃ outs,φ [.scr ns] = some (.bool true,outs)) :
  PySem.W.WalkO q loose XP YP l.row.toRowW d [] (fun f vs=>PySem.call f vs):=by
 refine Att.attach_call hn hdf fun w s0 s1 mg mb fa o pm cd doc a vs ns G Y ho hd hcd hmg hobj hints hlen hg=>?_
 obtain ⟨K,KX,fd,hb,hF⟩:=Fn w mg fa _ Y G.T.g hmg
 exact QbP KX G.T.g G.T.b G.T.builtins G.T.nolimit hg hobj hints (Jq hlen hn2) hr hF hb (hφ ns hlen)
end Z
namespace Z
open PySem PySem.Spec PyProof.Rows L2
structure FnE (P:Program) (w:World) (K:PySem.W.Frag) (mg:Str → Option Value) (base:Heap) (CX:CXT) (k:Nat) (f:Addr) (fd:FuncData) (x:Str) (sp:Addr → Obj → Hp → VK → Prop):Prop where
 run:∀ (A:Around) (out:List Env) (s:Shared) (G:Hp) (ar:Args) (Q:VK) (E:XK) (a:Addr) (oe:Obj),A.guards = some [] → L2H.RoomH k A → A.handled = some (.ref a) → L2H.PinOk out G s (a,oe) → Env0 P w K mg base A out s G → BindsTo s fd ar ([x].zip [.ref a]) → sp a oe G Q →
  codeAny (model P w) A (.call (.ref f) ar) (CR CX out P w G s Q E) s

section
variable {X:Cx} {CX:CXT} {k:Nat} {f:Addr} {fd:FuncData} {y:Str} {sp:Addr → Obj → Hp → VK → Prop} {x ex:Str} {p p1 pos:Pos} {a:Addr} {oe:Obj} {pn:List (Addr × Obj)}
def QaX (a:Addr) (oe:Obj) (sp:Addr → Obj → Hp → VK → Prop) (t:TE):TE:=fun σ H Q=>tCons t tNil σ H fun us H1=>us = [.ref a] ∧ sp a oe H1 Q
theorem FnE.pe (Fn:FnE X.prog X.w X.K X.mg X.base CX k f fd y sp) (hG:X.A.guards = some []) (hR:L2H.RoomH k X.A) (gl:Gl (X.suite a ((a,oe) :: pn)) x) (m:X.mg x = some (.ref f)) (kp:PySem.W.keepIn X.K (.ref f) = true) (hb:Binds X.K fd [y] []) (hx:Passes CX (X.suite a ((a,oe) :: pn)) (fun _ _ _=>False)) {t:TE}
  (he:PE (X.suite a ((a,oe) :: pn)) (.Name ex p1) t) (db:(x == ("__debug__":Str)) = false) (h1:starEach [.Name ex p1] (X.suite a ((a,oe) :: pn)).env = (false,eval (.Name ex p1) (X.suite a ((a,oe) :: pn)).env) :: starEach [] (X.suite a ((a,oe) :: pn)).env) (h2:(backTo pos (starEach [] (X.suite a ((a,oe) :: pn)).env)).any (·.1) = false) :
  PE (X.suite a ((a,oe) :: pn)) (.Call (.Name x p) [.Name ex p1] [] pos) (QaX a oe sp t):=by
 constructor
 intro pins s σ G Q I h
 have pa:PA (X.suite a ((a,oe) :: pn)) [.Name ex p1] (tCons t tNil):=pa_cons he pa_nil h1
 refine wpAny_Call_Name_kw (ld_glob I gl m ?_ db)
 refine PySem.W.callWith_K (h₀:=(X.suite a ((a,oe) :: pn)).base) I.ok.mod.kin kp (thn (pa.run pos pins s σ G (fun us G1=>us = [.ref a] ∧ sp a oe G1 Q) I h) ?_) h1 h2
 rintro ws s1 ⟨us,G1,I1,r,eu,q⟩
 refine ⟨I1.kIn,?_⟩
 subst eu
 cases r with
 | cons r1 r2 =>
 cases r2
 cases r1
 have b:=hb s1 [.ref a] I1.kIn rfl
 rw [Qz] at b
 have P1:=I1.pin (a,oe) (by simp)
 have hot:(X.suite a ((a,oe) :: pn)).A.handled = some (.ref a):=rfl
 have hpin:L2H.PinOk (X.suite a ((a,oe) :: pn)).stack G1 s1 (a,oe):=⟨P1.1,P1.2.1,fun hm=>(Ql.mp (I1.stkSub a hm)).elim P1.2.2.1 P1.2.2.2.1,P1.2.2.2.2⟩
 refine wpAny_call (codeAny_mono (Fn.run _ _ s1 G1 ⟨[.ref a],[]⟩ Q (fun _ _ _=>False) a oe hG (by exact ⟨hR.dp,hR.un⟩) hot hpin I1.env0 b q) ?_)
 intro res s2 hq
 cases res with
 | error er=>exact hx pins σ G1 s1 er s2 I1 hq
 | ok fl =>
  cases fl with
  | ret u=>exact I1.after hq
  | next=>exact hq.elim
  | brk=>exact hq.elim
  | cont=>exact hq.elim
end
def spE (K:PySem.W.Frag) (ns:List Str) (fr:Fr) (φ:Str → Addr → List Sl → Option (D × List Sl)):Addr → Obj → Hp → VK → Prop:=fun a oe G Q =>
 ∃ c C,ns.contains c = true ∧ Vf K c C ∧ Zc (.ref C) none oe ∧ (∃ vs,oe.data = Data.fields vs) ∧ spF K 1 fr (φ c a) [.ref a] G Q (fun _ _ _=>False)

structure KnE (X:Cx) (x:Str) (ns:List Str) (φ:Str → Addr → List Sl → Option (D × List Sl)):Prop where
 ex:∃ (CX:CXT) (k:Nat) (f:Addr) (fd:FuncData) (y:Str),FnE X.prog X.w X.K X.mg X.base CX k f fd y (spE X.K ns .n φ) ∧ L2H.RoomH k X.A ∧ X.mg x = some (.ref f) ∧ PySem.W.keepIn X.K (.ref f) = true ∧ Binds X.K fd [y] [] ∧ ∀ a pn,Passes CX (X.suite a pn) (fun _ _ _=>False)
 gd:X.A.guards = some []
 gl:Gl X x
 db:(x == ("__debug__":Str)) = false
theorem SR.one {K:PySem.W.Frag} {Y:Fx} {F H:Hp} {δ:List Sl} {σ:L2.St} {A:Nat → List Addr} {a:Addr} (S:SR K Y F H δ σ A):SR K Fx.any F H [.xv a] ([.ref a].map some) (fun _=>[]):=by
 refine ⟨rfl,fun j s e=>?_,fun _ _=>rfl,fun j k a h1 _=>absurd h1 (by simp),fun j a h=>absurd h (by simp),fun _ _ _ _=>rfl,S.sub,fun i hi=>?_,fun i hi=>trivial,fun _ _ e=>?_,fun _ _ _=>rfl,fun _ _ e=>?_,fun _ h=>(by rcases h with h | h <;> cases h),fun j c fs e=>?_,fun j e=>?_⟩
 ·cases j with
  | zero=>cases e; exact ⟨rfl,rfl⟩
  | succ j=>simp at e
 ·cases hi
 ·cases e
 ·cases e
 ·cases j with
  | zero=>cases e
  | succ j=>simp at e
 ·cases e

def GEx (P:Program) (w:World) (K:PySem.W.Frag) (mg:Str → Option Value) (base:Heap) (x:Str) (k:Nat) (ns:List Str) (φ:Str → Addr → List Sl → Option (D × List Sl)):Prop :=
 ∃ (f:Addr) (fd:FuncData) (y:Str),FnE P w K mg base (L2N.CX P w) k f fd y (spE K ns .n φ) ∧ mg x = some (.ref f) ∧ PySem.W.keepIn K (.ref f) = true ∧ Binds K fd [y] []
theorem GEx.kn {X:Cx} {x:Str} {j k:Nat} {ns:List Str} {φ:Str → Addr → List Sl → Option (D × List Sl)} (g:GEx X.prog X.w X.K X.mg X.base x k ns φ) (hr:Room j X.A) (hG:X.A.guards = some []) (hk:k ≤ j:=by decide) (gl:Gl X x:=by rfl) (db:(x == ("__debug__":Str)) = false:=by decide):KnE X x ns φ:=by
 obtain ⟨f,fd,y,h1,h2,h3,h4⟩:=g
 exact ⟨⟨_,k,f,fd,y,h1,(L2H.roomH_of hr).mono hk,h2,h3,h4,fun a pn=>Q7I⟩,hG,gl,db⟩
end Z
namespace Z
open PySem PySem.Spec PyProof.Rows L2


def QbK (ds es:List (D × D)):List (D × D):=es.foldl (fun a p=>match W1 p.1 with | some k=>Qad a k p.2 | none=>a) ds
theorem RpK.upd {K:PySem.W.Frag} {G:Hp}:∀ {more:List (Key × V)} {es:List (D × D)} {kvs:List (Key × V)} {ds:List (D × D)},RpK K G more es → RpK K G kvs ds → RpK K G (mergeK kvs more) (QbK ds es)
 | _,_,_,_,.nil,h=>h
 | _,_,kvs,ds,.cons (k:=k) h r',h0=>by
  show RpK K G (mergeK (putK kvs k _) _) _
  unfold QbK
  rw [List.foldl_cons]
  simp only [Xy]
  exact RpK.upd r' (h0.put k h)
end Z
namespace Z
open PySem PySem.Spec PyProof.Rows L2
theorem ObR.false {H:Hp} {v:Option V} {σ:L2.St} {fs:List (Str × Nat)} {io:Nat → Bool} (h:ObR (fun _=>false) H v σ fs):ObR io H v σ fs:=⟨fun q hq=>(by cases h.1 q hq),h.2⟩
end Z
namespace Z
open PySem PySem.Spec PyProof.Rows L2
end Z
namespace Z
open PySem PySem.Spec PyProof.Rows L2 He
structure KdC (w:World) (K:PySem.W.Frag) (mg:Str → Option Value) (x:Str) (hits:List (Str × Int)) (ms:List Str):Prop where
 ex:∃ (p:Addr) (es:Array DictEntry) (n:Nat),mg x = some (.ref p) ∧ KDict K w p es n ∧ (∀ z i,hits.lookup z = some i → ∃ t,PySem.W.nsIn K p z = some (some (.int i t))) ∧ ∀ z ∈ ms,PySem.W.nsIn K p z = some none

end Z
namespace Z
open PySem PySem.Spec PyProof.Rows L2


end Z
namespace Z
open PySem PySem.Spec PyProof.Rows L2
def ev7 {α:Type} (xs:List α) (a b:Nat):List α:=(Jn ((b - a + 6) / 7)).filterMap fun m=>xs[a + 7 * m]?
def hiN:Option Int → Option Nat
 | some (.ofNat n)=>some n
 | _=>none

section
variable {X:Cx}
def r7 (K:PySem.W.Frag):V → Option Int → Option Int → Hp → VK → Prop:=fun x lo hi H Q =>
 ∃ a xs k j,x = .ref a ∧ SqT K H a xs ∧ loN lo = some k ∧ hiN hi = some j ∧ ∀ p,H p = none → Q (.ref p) (upd H p (.tup (ev7 xs (min k xs.length) (min j xs.length))))
def t7 (K:PySem.W.Frag) (te:TE) (tl th:TO):TE:=fun σ H Q=>te σ H fun x H1=>tl σ H1 fun l H2=>th σ H2 fun u H3=>r7 K x l u H3 Q
end
end Z
namespace Z
open PySem PySem.Spec PyProof.Rows L2

end Z
namespace Z
open PySem PySem.Spec PyProof.Rows L2
section
variable {K:PySem.W.Frag} {F F' H H':Hp}
theorem DLs.length:∀ {kvs:List (Key × V)} {ds:List (D × D)} {A:List Addr},DLs K F H kvs ds A → kvs.length = ds.length
 | _,_,_,.nil=>rfl
 | _,_,_,.cons _ _ t=>congrArg (· + 1) t.length
theorem DLs.append:∀ {kvs lws:List (Key × V)} {ds es:List (D × D)} {A B:List Addr},DLs K F H kvs ds A → DLs K F H lws es B → DLs K F H (kvs ++ lws) (ds ++ es) (A ++ B)
 | _,_,_,_,_,_,.nil,s=>s
 | _,_,_,_,_,_,.cons h r t,s=>.cons h r (t.append s)
theorem DLs.none (k:Key):∀ {kvs:List (Key × V)} {ds:List (D × D)} {A:List Addr},DLs K F H kvs ds A → k ∉ kvs.map (·.1) → ∀ (v:V) (d:D),(kvs.map fun kv=>if kv.1 = k then (kv.1,v) else kv) = kvs ∧ (ds.map fun p=>if W1 p.1 = some k then (p.1,d) else p) = ds
 | _,_,_,.nil,_,_,_=>⟨rfl,rfl⟩
 | _,_,_,.cons (k:=k0) h r t,n,v,d=>by
  rw [Qq,Ql,not_or] at n
  have ne:¬ k0 = k:=fun z=>n.1 z.symm
  obtain ⟨h1,h2⟩:=t.none k n.2 v d
  rw [Qq,Qq,if_neg ne,h1,Xy,if_neg fun z=>ne (Qs.inj z),h2]
  exact ⟨rfl,rfl⟩
theorem Q6b {k0 k:Key} {d:D} {s:List (D × D)}:Q1L ((Q2N k0,d) :: s) k = if k0 = k then some d else Q1L s k:=by
 unfold Q1L
 by_cases e:k0 = k
 ·rw [if_pos e,List.find?_cons_of_pos (by rw [Xy,e]; simp)]
  rfl
 ·rw [if_neg e,List.find?_cons_of_neg (by rw [Xy]; simpa using e)]
theorem DLs.at (k:Key) {es:List D}:∀ {kvs:List (Key × V)} {ds:List (D × D)} {A:List Addr},DLs K F H kvs ds A → (kvs.map (·.1)).Nodup → A.Nodup → Q1L ds k = some (.list es) →
  ∃ q xs,valV kvs k = some (.ref q) ∧ q ∈ A ∧ H q = some (.lst xs) ∧ Rps K F xs es ∧ ∀ (F' H':Hp) ys es',Same F F' → (∀ a ∈ A,a ≠ q → H' a = H a) → H' q = some (.lst ys) → Rps K F' ys es' → DLs K F' H' kvs (ds.map fun p=>if W1 p.1 = some k then (p.1,.list es') else p) A
 | _,_,_,.nil,_,_,e=>by cases e
 | _,_,_,.cons (k:=k0) (q:=q0) (xs:=xs0) (ds:=ds0) (A:=A0) h r t,n,nd,e=>by
  rw [Qq,Jv] at n
  rw [Q6b] at e
  have nd':=Jv.mp nd
  by_cases c:k0 = k
  ·rw [if_pos c] at e
   cases e
   subst c
   refine ⟨q0,xs0,valV_pos rfl,Qe,h,r,fun F' H' ys es' sF k1 k2 k3=>?_⟩
   have z:=(t.none k0 n.1 (.ref q0) (.list es')).2
   rw [Qq,Xy,if_pos rfl,z]
   exact .cons k2 k3 (t.mono sF fun a ha=>k1 a (Qb _ ha) fun z=>nd'.1 (by rw [← z]; exact ha))
  ·rw [if_neg c] at e
   obtain ⟨q,xs,e1,e2,e3,e4,e5⟩:=DLs.at k t n.2 nd'.2 e
   have nq:q0 ≠ q:=fun z=>nd'.1 (by rw [z]; exact e2)
   refine ⟨q,xs,by rw [valV_neg c]; exact e1,Qb _ e2,e3,e4,fun F' H' ys es' sF k1 k2 k3=>?_⟩
   rw [Qq,Xy,if_neg fun z=>c (Qs.inj z)]
   exact .cons (by rw [k1 _ Qe nq]; exact h) (r.mono sF) (e5 F' H' ys es' sF (fun a ha hn=>k1 a (Qb _ ha) hn) k2 k3)
end


end Z
namespace Z
open PySem PySem.Spec PyProof.Rows L2



end Z
namespace Z
open PySem PySem.Spec PyProof.Rows L2






end Z
namespace Z
open PySem PySem.Spec PyProof.Rows L2


end Z
namespace Z
open PySem PySem.Spec PyProof.Rows L2
end Z
namespace Z
open PySem PySem.Spec PyProof.Rows L2
structure Zap (z TI TO i1 i2:Addr):Prop where
 a:TI ≠ z
 b:TO ≠ z
 c:TI ≠ TO
 d:TI ≠ i1
 e:TI ≠ i2
 f:z ≠ i1
 g:z ≠ i2
 h:TO ≠ i1
 i:TO ≠ i2
 j:i1 ≠ i2

end Z
namespace Z
open PySem PySem.Spec PyProof.Rows L2 He
structure KdS (w:World) (K:PySem.W.Frag) (mg:Str → Option Value) (x:Str) (hits:List (Str × Str)):Prop where
 ex:∃ (p:Addr) (es:Array DictEntry) (n:Nat),mg x = some (.ref p) ∧ KDict K w p es n ∧ (∀ z i,hits.lookup z = some i → ∃ t,PySem.W.nsIn K p z = some (some (.str i t))) ∧ ∀ z,hits.lookup z = none → PySem.W.nsIn K p z = some none




end Z
namespace Z
open PySem PySem.Spec PyProof.Rows L2 He
structure TabF (w:World) (K:PySem.W.Frag) (mg:Str → Option Value) (x:Str) (ks:List Str) (tb:List (Str × Int × Str)):Prop where
 ex:∃ (p:Addr) (es:Array DictEntry) (n:Nat),mg x = some (.ref p) ∧ KDict K w p es n ∧ (∀ z,∃ r,PySem.W.nsIn K p z = some r ∧ r.isSome = ks.contains z) ∧
  ∀ z i f,(z,i,f) ∈ tb → ∃ (t q:Addr) (o:Obj) (its:Array Value) (e:Nat) (tk:Tok),PySem.W.nsIn K p z = some (some (.ref t)) ∧ List.lookup t K = some o ∧ o.cls = .type "tuple" ∧ o.data = .seq its e ∧ its.toList = [.int i tk,.ref q] ∧ mg f = some (.ref q)

structure KnQ (X:Cx) (q:Addr) (n:Nat) (φ:List Sl → Option (D × List Sl)):Prop where
 ex:∃ (CX:CXT) (k:Nat) (fd:FuncData) (ps:List Str),FnG X.prog X.w X.K X.mg X.base CX k q fd ps (spF X.K ps.length .n φ) ∧ ps.length = n ∧ Room k X.A ∧ PySem.W.keepIn X.K (.ref q) = true ∧ Binds X.K fd ps [] ∧ Passes CX X E0
 gd:X.A.guards = some []


structure KnW (X:Cx) (x:Str) (n:Nat) (fr:Fr) (φ:List Sl → Option (D × List Sl)):Prop where
 ex:∃ (CX:CXT) (k:Nat) (a:Addr) (fd:FuncData) (ps:List Str),FnG X.prog X.w X.K X.mg X.base CX k a fd ps (spF X.K ps.length fr φ) ∧ ps.length = n ∧ Room k X.A ∧ X.mg x = some (.ref a) ∧ PySem.W.keepIn X.K (.ref a) = true ∧ Binds X.K fd ps [] ∧ Passes CX X E0
 gd:X.A.guards = some []
inductive Q77 (X:Cx) (tb0:List (Str × Int × Str)):List (Str × Int × Nat × (List Sl → Option (D × List Sl))) → Prop
 | nil:Q77 X tb0 []
 | cons {z f:Str} {i:Int} {n0:Nat} {φ:List Sl → Option (D × List Sl)} {r}:(z,i,f) ∈ tb0 → KnW X f n0 .n φ → Q77 X tb0 r → Q77 X tb0 ((z,i,n0,φ) :: r)
theorem Q77.at {X:Cx} {tb0:List (Str × Int × Str)} {z:Str} {e}:∀ {tb},Q77 X tb0 tb → tb.lookup z = some e → ∃ f,(z,e.1,f) ∈ tb0 ∧ KnW X f e.2.1 .n e.2.2
 | _,.nil,h=>by cases h
 | _,.cons (z:=z0) a b r,h=>by
  rw [Jj] at h
  split at h
  ·rename_i c
   cases h
   have:=eq_of_beq c
   subst this
   exact ⟨_,a,b⟩
  ·exact r.at h



end Z
namespace Z
open PySem PySem.Spec PyProof.Rows L2
end Z
namespace Z
open PySem PySem.Spec PyProof.Rows L2
end Z
namespace Z
open PySem PySem.Spec PyProof.Rows L2
theorem Q40 {K:PySem.W.Frag} {G:Hp}:∀ ys:List Str,Rps K G (ys.map V.str) (ys.map Q2)
 | []=>.nil
 | _ :: r=>.cons (.str _) (Q40 r)
def Q87:D → Option Str
 | .str a=>some a
 | _=>none
theorem Q5t {K:PySem.W.Frag} {G:Hp}:∀ {xs:List V} {ds:List D} {ys:List Str},Rps K G xs ds → ds.mapM Q87 = some ys → xs = ys.map V.str
 | _,_,ys,.nil,h=>by
  simp only [List.mapM_nil] at h
  cases h
  rfl
 | _,_,ys,.cons (d:=d) r rs,h=>by
  rw [List.mapM_cons] at h
  cases r with
  | str x =>
   obtain ⟨y,hy,h2⟩:=Qi.mp h
   obtain ⟨zs,hz,h3⟩:=Qi.mp h2
   cases hy
   cases h3
   rw [Q5t rs hz]
   rfl
  | _=>cases h
def Q6E:D → D → Option D
 | .str a,.str b=>if (b.length == 0) = false ∧ a.length + 2 ≤ sizeLine then some (.list ((Txt.split a b).map Q2)) else none
 | _,_=>none
def Q5e:D → D → Option D
 | .str a,.list ds=>(ds.mapM Q87).bind fun ys=>if (ys.map (·.length)).sum + ys.length * a.length ≤ 16777216 then some (.str (Txt.join a ys)) else none
 | _,_=>none
section
variable {X:Cx} {o e:Expr} {fo fe:List Sl → Option (D × List Sl)} {R M R2 M2:List Nat} {apos pos:Pos}
theorem Q4d (ho:EV X o fo R M) (he:EV X e fe R2 M2) (hs:starEach [e] X.env = [(false,eval e X.env)]:=by rfl) (h1:attributeBase o "split" X.env (eval o X.env) = eval o X.env:=by rfl) (h2:(apos.endLine == pos.line) = true:=by rfl) :
  NV X (.Call (.Attribute o "split" apos) [e] [] pos) (f2 Q6E fo fe) (M ++ M2):=by
 obtain ⟨t,p,q⟩:=ho
 obtain ⟨tl,pl,ql⟩:=he
 refine ⟨_,pe_split p pl hs h1 h2,fun Y F H δ σ A S z δ' e0 Q k=>?_⟩
 obtain ⟨d,δ1,l,e1,e2,e4⟩:=Q3y e0
 refine q Y F H δ σ A S d δ1 e1 _ fun x F1 H1 st1 S1 r1=>?_
 unfold Q6E at e4
 split at e4
 ·split at e4
  ·cases e4
   rename_i hc
   have r1':=r1.str
   subst r1'
   refine ⟨⟨_,rfl⟩,?_⟩
   refine ql Y F1 H1 δ1 σ A S1 _ _ e2 _ fun y F2 H2 st2 S2 r2=>?_
   have r2':=r2.str
   subst r2'
   have st:=st1.trans S1 st2
   exact ⟨_,_,rfl,rfl,hc.1,hc.2,fun p hp=>k p F2 _ (Xq S2 st (Stp.laidO hp)) (S2.laidO hp) (Q6y st S2 hp) (S2.sub.free hp) ⟨_,upd_same,Q40 _⟩⟩
  ·cases e4
 ·cases e4
theorem Q8Q (ho:EV X o fo R M) (he:EV X e fe R2 M2) (hs:starEach [e] X.env = [(false,eval e X.env)]:=by rfl) (h1:attributeBase o "join" X.env (eval o X.env) = eval o X.env:=by rfl) (h2:(apos.endLine == pos.line) = true:=by rfl) :
  EV X (.Call (.Attribute o "join" apos) [e] [] pos) (f2 Q5e fo fe) [] (M ++ M2):=by
 obtain ⟨t,p,q⟩:=ho
 obtain ⟨tl,pl,ql⟩:=he
 refine ⟨_,pe_join p pl hs h1 h2,fun Y F H δ σ A S z δ' e0 Q k=>?_⟩
 obtain ⟨d,δ1,l,e1,e2,e4⟩:=Q3y e0
 refine q Y F H δ σ A S d δ1 e1 _ fun x F1 H1 st1 S1 r1=>?_
 unfold Q5e at e4
 split at e4
 ·obtain ⟨ys,e5,e6⟩:=Qi.mp e4
  split at e6
  ·cases e6
   rename_i hc
   have r1':=r1.str
   subst r1'
   refine ⟨⟨_,rfl⟩,?_⟩
   refine ql Y F1 H1 δ1 σ A S1 _ _ e2 _ fun y F2 H2 st2 S2 r2=>?_
   obtain ⟨p,xs,rfl,h3,r⟩:=r2.list S2
   have ex:=Q5t r e5
   subst ex
   exact ⟨_,p,ys,rfl,rfl,.inl (SqL.of h3),hc,k _ F2 H2 (st1.trans S1 st2) S2 (.inl (.str _))⟩
  ·cases e6
 ·cases e4
end
def Q5h:D → Option D
 | .str a=>if a.length ≤ 640 then (PySem.intText? a).map Q0 else none
 | _=>none
def Q9v:List V → Hp → VK → Prop:=fun xs H Q=>∃ a n,xs = [.str a] ∧ PySem.intText? a = some n ∧ a.length ≤ 640 ∧ Q (.int n) H
section
variable {X:Cx}
theorem Q8Y:CallR X (.type "int") Q9v:=call_int_str
theorem Q8d:Q1x X Q9v (g1 Q5h):=by
 intro Y F H δ σ A R xs ds z S r hg Q k
 obtain ⟨d,rfl,hg'⟩:=Zz hg
 obtain ⟨v,rfl,rv⟩:=r.one
 unfold Q5h at hg'
 split at hg'
 ·split at hg'
  ·rename_i hl
   obtain ⟨n,hn,rfl⟩:=Qa.mp hg'
   have r1:=rv.str
   subst r1
   exact ⟨_,n,rfl,hn,hl,k _ F H Stp.refl S (.int n)⟩
  ·cases hg'
 ·cases hg'
end
end Z
namespace Z
open PySem PySem.Spec PyProof.Rows L2
end Z
namespace Z
open PySem PySem.Spec PyProof.Rows L2
end Z
namespace Z
open PySem PySem.Spec PyProof.Rows L2
def XL (X:Cx) (L:Addr) (W:WX) (u:Value) (t:Shared):Prop :=
 ∃ (a:Addr) (G:Heap) (r:Shared) (pins:List (Addr × Obj)) (τ:L2.St) (H:Hp) (c:Value) (d:Option Addr),
  u = .ref a ∧ L2.Inv X pins τ H r ∧ (∀ b o,r.heap.get? b = some o → b ∉ frs X.stack → G.get? b = some o) ∧ r.heap.UpToSlots t.heap ∧
   Sky G X.stack a (L2N.Zn c d) L t.heap ∧ H a = none ∧ t.os = r.os ∧ AllBare t.gens ∧ W c d τ H
def TkL (X:Cx) (L:Addr) (W:WX):Prop:=∀ u t,XL X L W u t → X.xe u t
theorem QaC {X:Cx} {W:WX} (tk:L2N.Takes X W):TkL X X.env.locals W:=fun u t h=>tk u t h
section
variable {X:Cx} {pins:List (Addr × Obj)} {σ:L2.St} {H:Hp} {s t:Shared} {W:WX} {E:XK} {L:Addr}
theorem Q8k (I:L2.Inv X pins σ H s) (hW:∀ c d H',E c d H' → W c d σ H') {u:Value} (c:L2N.CX X.prog X.w X.stack H s E u t):XL X L W u t:=by
 have x:=L2N.XE.of_call I hW c
 obtain ⟨a,B,_,_,_,rfl,fl,_⟩:=c
 obtain ⟨a',G,r,ps,τ,K,cl,d,e,J,nb,up,sky,na,os,ag,w⟩:=x
 cases e
 refine ⟨_,G,r,ps,τ,K,cl,d,rfl,J,nb,up,?_,na,os,ag,w⟩
 rcases sky with f | f | f
 ·exact .inl f
 ·exact .inr (.inl f)
 ·exfalso
  obtain ⟨_,_,_,o1,v1,T1,p1,t1,a1,_,a3,a4,_,_,a7,a8,a9⟩:=fl
  obtain ⟨_,_,_,o2,v2,T2,p2,t2,b1,_,b3,b4,_,_,b7,b8,b9⟩:=f
  rw [a1] at b1; cases b1
  rw [a3] at b3; cases b3
  rw [a4] at b4; cases b4
  rw [a7] at b7; cases b7
  rw [a8] at b8; cases b8
  rw [a9] at b9
  simp [rawInt] at b9
theorem Qb3 (tk:TkL X L W) (σ:L2.St):PassesAt (L2N.CX X.prog X.w) X σ (WE W σ):=fun pins H s e t I c=>tk e t (Q8k I (fun _ _ _ h=>h) c)
end
section
variable {M:Model} {A:Around} {E:Value → Shared → Prop} {s:Shared} {G:Heap} {e0 env:Env} {o0 l:List Env} {a L:Addr} {Z:Obj → Prop}
theorem QaN {Q:Unit → Shared → Prop} (hZ:PySem.PXN.Steady1 Z) (hfr:A.frames = some (e0 :: o0)) (hf:env.frame = some L) (h0:e0.frame = some L) (x:Sky G (e0 :: o0) a Z L s.heap)
  (hQ:∀ h',HandSPX.HeldZ G (e0 :: o0) a Z L h' → s.heap.UpToSlots h' → Q () { s with heap:=h' }):wpAny M A (noteFrame (.ref a) env) Q E s:=by
 have e:noteFrame (.ref a) env = noteFrame (.ref a) e0:=by
  unfold noteFrame PySem.frameOf
  rw [hf,h0]
 rw [e]
 rcases x with ⟨k1,k2,k3,oe,vs,k4,k5,k6,k7⟩ | f | f
 ·exact PySem.PXN.look_newZ hZ hfr k3 h0 k4 k1 k2 k6 k7 k5 hQ
 ·exact PySem.PXN.looks_onZ hZ hfr h0 f hQ
 ·exact HandSPX.againZ h0 f.2.2.2 (hQ s.heap f (Heap.UpToSlots.refl _))
theorem Q7J {α:Type} {what:String} {Q:α → Shared → Prop} (x:HandSPX.HeldZ G l a Z L s.heap) (hf:env.frame = some L)
  (hQ:∀ h',HandSPX.HeldZ G l a Z L h' → s.heap.UpToSlots h' → E (.ref a) { s with heap:=h' }):wpAny M A (PySem.passOn what (.ref a) env:Sem α) Q E s:=by
 obtain ⟨_,_,_,oe,vs,T,_,_,k1,_,k3,k4,_⟩:=id x
 unfold PySem.passOn
 refine wpAny_bind (wpAny_field k1 k3 k4 ?_)
 rw [if_neg (show ¬ ((Value.ref T == Value.none) = true) from by simp),hf]
 refine wpAny_bind ?_
 exact HandSPX.setFlight_onZ x fun h' k k'=>wpAny_throw (hQ h' k k')
end
theorem Q9w {h h' G G':Heap}:∀ {l:List Env},h.FunFrames G l → (∀ b ∈ frs l,h'.get? b = h.get? b ∧ G'.get? b = none) → h'.FunFrames G' l
 | [],_,_=>trivial
 | env :: l,x,k=>by
  obtain ⟨hk,⟨F,o,hf,_,ho,hd⟩,hr⟩:=x
  have m:F ∈ frs (env :: l):=List.mem_filterMap.mpr ⟨env,Qe,hf⟩
  refine ⟨hk,⟨F,o,hf,(k F m).2,(k F m).1.trans ho,hd⟩,Q9w hr fun b hb=>k b ?_⟩
  obtain ⟨e,he,q⟩:=List.mem_filterMap.mp hb
  exact List.mem_filterMap.mpr ⟨e,Qb _ he,q⟩
def cpF (M:Model) (A:Around) (E:Value → Shared → Prop) (use:Option (Value → Sem Unit)) (Q:Value → Shared → Prop) (acc:Value) (C:Addr) (f:Option Addr) (r:Result) (t:Shared):Prop:=match r with
 | .ok k=>compPost M A E use Q acc C (.ok k) t
 | .error x=>∃ m,t.heap.Ns C m ∧ ∀ h',Heap.SameBut C t.heap h' → ∀ ce:Env,ce.locals = C → ce.frame = f → wpAny M A (PySem.passOn "comprehension.variables-let-go" x ce:Sem Value) (fun _ _=>False) E { t with heap:=h' }
abbrev BkX (X:Cx) (scope:Scope) (s:Shared) (H:Hp) (C:Addr) (cl:List (Str × Addr)) (fp:List Addr) (pn:List (Addr × Obj)) (xe:Value → Shared → Prop):Cx:=(X.blk s H scope (compEnvC scope cl C X.env) fp).tr pn xe
theorem Q88 {X:Cx} {pins pn:List (Addr × Obj)} {σ:L2.St} {H3:Hp} {s3:Shared} {scope:Scope} {C L:Addr} {cl:List (Str × Addr)} {fp:List Addr} {xe:Value → Shared → Prop} {W:WX} {use:Option (Value → Sem Unit)} {Qf:Value → Shared → Prop} {D:Value} {e0:Env} {o0:List Env}
  (I3:L2.Inv X pins σ H3 s3) (hC:s3.heap.objs.size ≤ C) (fk:∀ b ∈ fp,(b ∈ X.ex ∨ X.s_0.heap.objs.size ≤ b) ∧ b ≠ X.env.locals ∧ (∀ x c,X.env.cells.lookup x = some c → c ≠ b) ∧ ∀ p ∈ X.pn ++ pins,p.1 ≠ b)
  (tk:TkL X L W) (hs:X.stack = e0 :: o0) (h0:e0.frame = some L) (hf:X.env.frame = some L) {u:Value} {t:Shared} (x:XL (BkX X scope s3 H3 C cl fp pn xe) L (fun c d _ H=>W c d σ H) u t) :
  notedBy (model X.prog X.w) X.A (compEnvC scope cl C X.env) (fun e t'=>cpF (model X.prog X.w) X.A X.xe use Qf D C (some L) (.error e) t') u t:=by
 obtain ⟨a,G,r,ps,τ,H,c,d,rfl,J,nb,up,sky,na,os,ag,w⟩:=x
 have J':L2.Inv X pins σ H r:=I3.call' (ch:=fp) J.os J.base J.hok J.bare fk
 have nC:H C = none:=J.free
 obtain ⟨m,hn,_⟩:=J.loc
 have fC:FpOk X pins H C:=I3.fpOk hC nC
 have nF:C ∉ frs X.stack:=fun z=>by
  rcases Ql.mp (I3.stkSub C z) with q | q
  ·exact fC.2.1 q
  ·exact fC.2.2.1 q
 have hfr:X.A.frames = some (e0 :: o0):=by rw [I3.ok.frames,hs]
 have nF':C ∉ frs (e0 :: o0):=by rw [← hs]; exact nF
 have nb':∀ b o,r.heap.get? b = some o → b ∉ frs (e0 :: o0) → G.get? b = some o:=by rw [← hs]; exact nb
 have sky':Sky G (e0 :: o0) a (L2N.Zn c d) L t.heap:=by rw [← hs]; exact sky
 refine QaN L2N.Zn.steady hfr (show (compEnvC scope cl C X.env).frame = some L from hf) h0 sky' fun h1 hh up1=>?_
 obtain ⟨o,es,ep,ho,hd,hr⟩:=hn
 have ho:r.heap.get? C = some o:=ho
 have h1C:h1.get? C = some o:=hh.1 C o (nb' C o ho nF')
 refine ⟨m,⟨o,es,ep,h1C,hd,hr⟩,fun h2 sb ce hl hcf=>?_⟩
 have sb2:∀ b,b ≠ C → h2.get? b = h1.get? b:=fun b hb=>sb.2 b hb
 have gd:∀ {b o},(PySem.W.hideAll G [C]).get? b = some o → b ≠ C ∧ G.get? b = some o:=fun {b o} e=>by
  refine ⟨fun z=>?_,PySem.W.of_hideAll _ e⟩
  rw [z,PySem.W.hideAll_none [C] (by simp)] at e
  cases e
 have gn:∀ {b},G.get? b = none → (PySem.W.hideAll G [C]).get? b = none:=fun {b} e=>by
  cases q:(PySem.W.hideAll G [C]).get? b with
  | none=>rfl
  | some v =>
   have:=(gd q).2
   rw [e] at this
   cases this
 have held:HandSPX.HeldZ (PySem.W.hideAll G [C]) (e0 :: o0) a (L2N.Zn c d) L h2:=by
  obtain ⟨k1,k2,k3,oe,vs,T,oT,ts,t1,t2,t3,t4,t5,t6,t7,t8,t9⟩:=hh
  have aC:a ≠ C:=fun z=>by
   rw [z,h1C] at t1
   cases t1
   rw [hd] at t3
   cases t3
  have TC:T ≠ C:=fun z=>by
   rw [z,h1C] at t7
   cases t7
   rw [hd] at t8
   cases t8
  refine ⟨fun b v e=>(sb2 b (gd e).1).trans (k1 b v (gd e).2),gn k2,Q9w k3 fun b hb=>⟨sb2 b fun z=>nF' (z ▸ hb),gn (k3.mem hb).1⟩,oe,vs,T,oT,ts,(sb2 a aC).trans t1,t2,t3,t4,gn t5,t6,(sb2 T TC).trans t7,t8,t9⟩
 refine Q7J held hcf fun h3 hh3 up3=>?_
 obtain ⟨f0,f1,f2,f3,f4,f5⟩:=fC
 refine tk _ _ ⟨a,PySem.W.hideAll G [C],{ r with heap:=PySem.W.hideAll r.heap [C] },pins,σ,H,c,d,rfl,J'.turned (t':=r.toks) (fun b v hb e=>PySem.W.hideAll_get _ e (by simpa using hb)) f0 f1 f3 f4 f5,fun b v e hb=>?_,fun b v e nv=>?_,.inr (.inr (by rw [hs]; exact hh3)),na,os,ag,w⟩
 ·have e':(PySem.W.hideAll r.heap [C]).get? b = some v:=e
  have bC:b ≠ C:=fun z=>by
   rw [z,PySem.W.hideAll_none [C] (by simp)] at e'
   cases e'
  exact PySem.W.hideAll_get _ (nb b v (PySem.W.of_hideAll _ e') hb) (by simpa using bC)
 ·have e':(PySem.W.hideAll r.heap [C]).get? b = some v:=e
  have bC:b ≠ C:=fun z=>by
   rw [z,PySem.W.hideAll_none [C] (by simp)] at e'
   cases e'
  obtain ⟨s1,q1⟩:=up b v (PySem.W.of_hideAll _ e') nv
  obtain ⟨s2,q2⟩:=up1 b _ q1 nv
  obtain ⟨s3,q3⟩:=up3 b _ ((sb2 b bC).trans q2) nv
  exact ⟨s3,q3⟩
section
variable {M:Model} {A:Around} {E:Value → Shared → Prop} {s:Shared} {env:Env}
theorem Q35 {e:Expr} {scope:Scope} {pos:Pos} {nw fst:Sem Value} {g:Comprehension} {gs:List Comprehension} {cl:List (Str × Addr)} {use:Option (Value → Sem Unit)} {Q:Value → Shared → Prop}
  (hcl:clausesOf e = g :: gs) (hs:∀ x,foldedSetIterable g.iter env x = pure x) (hclos:closureFor scope env = pure cl) (hkind:scope.kind = .function) (hnames:∀ x ∈ scope.names,x.2 = .local → scope.names.lookup x.1 = some .local)
  (h:wpAny M A fst (fun x s₁=>wpAny M A (pyIter x) (fun it s₂=>wpAny M A nw (fun acc s₃ =>
   wpAny M A (newFunctionEnv scope env.globals cl [] env.qual none .none (some env)) (fun ce s₄ =>
    codeAny M A (.compStart e 0 it acc { ce with scope:=relabel scope env }) (cpF M A E use Q acc ce.locals ce.frame) s₄) E s₃) E s₂) E s₁) E s):wpAny M A (comprehension e scope env pos nw false fst use) Q E s:=by
 unfold comprehension
 rw [hclos,hcl]
 have k:∀ {α:Type} {P:α → Shared → Prop} {m:Sem α} {t:Shared} {P':α → Shared → Prop},wpAny M A m P E t → (∀ a t,P a t → P' a t) → wpAny M A m P' E t:=fun a b=>wpAny_mono a b fun _ _ z=>z
 refine wpAny_bind (k h fun x s₁ h₁=>?_)
 refine wpAny_bind (wpAny_standAt (wpAny_bind (wpAny_of_eq (hs x) (wpAny_bind (wpAny_holding (k h₁ fun it s₂ h₂=>?_))))))
 refine wpAny_standIf (wpAny_bind (k h₂ fun acc s₃ h₃=>?_))
 refine wpAny_bind (wpAny_pure (wpAny_bind (k h₃ fun ce s₄ h₄=>?_)))
 dsimp only
 have lo:∀ x:Str × NameKind,x ∈ scope.names → x.2 = .local → Env.kindOf { ce with scope:=relabel scope env } x.1 = some .local:=fun x hx hl=>lookup_relabel_local (hnames x hx hl)
 have own1:∀ x ∈ (scope.names.filter fun x=>(x.2 == .local || x.2 == .cell) && x.1 != (".0":Str)).reverse,x.2 = .local → Env.kindOf { ce with scope:=relabel scope env } x.1 = some .local :=
  fun x hx=>lo x (List.mem_filter.mp (List.mem_reverse.mp hx)).1
 refine wpAny_holding (wpAny_bind (wpAny_attempt (wpAny_holding (wpAny_run (codeAny_mono h₄ fun r t hr=>?_)))))
 cases r with
 | ok f =>
  cases use with
  | none =>
   obtain ⟨m,hn,q⟩:=hr
   exact wpAny_bind (wpAny_holding (wpAny_comp_letGo (cenv:={ ce with scope:=relabel scope env }) hkind _ t m own1 hn fun h' m' _ hb=>wpAny_pure (q h' hb)))
  | some u =>
   refine wpAny_bind (wpAny_rule (wpAny_bind (wpAny_holding (k hr fun _ t' hr'=>?_))))
   obtain ⟨m,hn,q⟩:=hr'
   refine wpAny_bind (wpAny_comp_letGo (cenv:={ ce with scope:=relabel scope env }) hkind _ t' m (fun x hx=>?_) hn fun h' m' _ hb=>wpAny_pure (q h' hb))
   exact own1 x ((Qj.mp hx).elim List.mem_of_mem_drop List.mem_of_mem_take)
 | error x =>
  have hr':∃ m,t.heap.Ns ce.locals m ∧ ∀ h',Heap.SameBut ce.locals t.heap h' → ∀ c:Env,c.locals = ce.locals → c.frame = ce.frame → wpAny M A (PySem.passOn "comprehension.variables-let-go" x c:Sem Value) (fun _ _=>False) E { t with heap:=h' }:=hr
  obtain ⟨m,hn,q⟩:=hr'
  exact wpAny_bind (wpAny_holding (wpAny_comp_letGo (cenv:={ ce with scope:=relabel scope env }) hkind _ t m own1 hn fun h' m' _ hb=>wpAny_mono (q h' hb _ rfl rfl) (fun _ _ z=>z.elim) fun _ _ z=>z))
end
theorem Q84 {X:Cx} {pins pn:List (Addr × Obj)} {σ:L2.St} {H:Hp} {s:Shared} (I:L2.Inv X pins σ H s) (xe:Value → Shared → Prop)
  (hp:∀ p ∈ pn,s.heap.get? p.1 = some p.2 ∧ H p.1 = none ∧ p.1 ≠ X.env.locals ∧ p.1 ∉ X.fs ∧ ∀ v,p.2.data ≠ .cell v):L2.Inv (X.tr pn xe) [] σ H s :=
 ⟨I.ok.toTry _ _,I.os,I.bare,I.base,I.loc,I.cell,I.free,I.freeC,fun p h=>hp p (by rw [Qz] at h; exact h),I.hok,I.len⟩
theorem Q4e {X:Cx} {pins:List (Addr × Obj)} {s:Shared} {σ:L2.St} {H:Hp} {Q:VK} {elt tg iter:Expr} {ifs:List Expr} {scope:Scope} {own:List (Str × Nat)} {pos pos':Pos} {wi:TI} {g:TG} {tt:TT} {te:WX → TE} {use:Option (Value → Sem Unit)} {Qf:Value → Shared → Prop} {L:Addr} {W:WX} {e0:Env} {o0:List Env}
  (hc:X.calm = true) (hN:X.N.Nodup) (I:L2.Inv X pins σ H s) (hi:PI X tg iter wi) (ok:BlkOk X.N X.env.scope scope own) (tk:TkL X L W) (hst:X.stack = e0 :: o0) (h0:e0.frame = some L) (hf:X.env.frame = some L)
  (hg:∀ s H C cl fp pn xe,PG (BkX X scope s H C cl fp pn xe) tg g) (ht:∀ s H C cl fp pn xe,PTs (BkX X scope s H C cl fp pn xe) ifs tt)
  (he:∀ W' s H C cl fp pn xe,TkL (BkX X scope s H C cl fp pn xe) L W' → PE (BkX X scope s H C cl fp pn xe) elt (te W')) (hs:∀ x,foldedSetIterable iter X.env x = pure x)
  (h:tLc wi g tt (te fun c d _ H=>W c d σ H) (own.map (·.2)) σ H Q)
  (hRR:∀ D C t m H',L2.Inv X pins σ H' t → Q (.ref D) H' → t.heap.Ns C m → FpOk X pins H' C → compPost (model X.prog X.w) X.A X.xe use Qf (.ref D) C (.ok .next) t) :
  wpAny (model X.prog X.w) X.A (comprehension (.ListComp elt [⟨tg,iter,ifs,0⟩] scope pos) scope X.env pos' (newList []) false (eval iter X.env) use) Qf X.xe s:=by
 have fr:∀ y ∈ scope.names,y.2 = .free → ∃ c,X.env.cells.lookup y.1 = some c:=fun y hy e=>I.ok.has _ ((ok.free y hy e).imp id id)
 refine Q35 (use:=use) rfl hs (closure_ok fr) ok.kind (fun y hy e=>by rw [ok.uniq y hy,e]) (thn (hi.run pins s σ H _ I h) fun xv s1 hx=>thn hx fun itv s2 h2=>?_)
 obtain ⟨it,fp,tn,J,H2,rfl,I2,T,st2,f2,q⟩:=h2
 refine wpAny_newObj_type (newEnv_comp ?_) (by show 0 ≤ sizeLine; decide)
 generalize hD:s2.heap.objs.size = D
 have nD:H2 D = none:=I2.hok.fresh (Jw hD)
 obtain ⟨W_,⟨m0,w0⟩,turn⟩:=q D nD
 generalize hs3:({ s2 with heap:=s2.heap.push { cls:=.type "list",data:=.seq ([]:List Value).toArray } }:Shared) = s3
 have I3:L2.Inv X pins σ (upd H2 D (.lst [])) s3:=by
  rw [← hs3]
  refine I2.laid (t':=s2.toks) (fun b o e=>Heap.get?_push_of_some _ e) (Jw hD) ⟨Jh _,[],0,.nil,?_⟩
  rw [← hD]
  exact Heap.get?_push_size _ rfl
 have e3:s3.heap = s2.heap.push { cls:=.type "list",data:=.seq ([]:List Value).toArray }:=by rw [← hs3]
 have f3:∀ b ∈ fp,FpOk X pins (upd H2 D (.lst [])) b ∧ b < s3.heap.objs.size:=fun b hb=>by
  obtain ⟨o,e,_⟩:=T.obj _ _ st2 b hb
  have lt:=Heap.lt_size e
  refine ⟨⟨?_,(f2 b hb).2⟩,by rw [e3,Heap.size_push]; exact Nat.lt_succ_of_lt lt⟩
  rw [upd_ne (by rw [← hD]; exact Je lt)]
  exact (f2 b hb).1
 have st3:tn 0 s3.heap:=T.keep _ _ _ st2 fun b _ o e=>by rw [e3]; exact Heap.get?_push_of_some _ e
 generalize hcl:cellsFrom (s3.heap.objs.size + 1) scope.names (cloFrom X.env.cells scope.names []) = cl
 have I4:=block_start I3 ok hN f3
 rw [hcl] at I4
 generalize hC:s3.heap.objs.size = C at I4
 generalize hH3:upd H2 D (.lst []) = H3 at I3 I4 w0 f3
 show codeAny _ _ (.compStart (.ListComp elt [⟨tg,iter,ifs,0⟩] scope pos) 0 (.ref it) (.ref D) (compEnvC scope cl C X.env)) (cpF (model X.prog X.w) X.A X.xe use Qf (.ref D) C X.env.frame) { s3 with heap:=pushCells (s3.heap.push { cls:=.type "dict",data:=.dict #[] }) scope.names }
 rw [hf]
 generalize hs4:({ s3 with heap:=pushCells (s3.heap.push { cls:=.type "dict",data:=.dict #[] }) scope.names }:Shared) = s4 at I4 ⊢
 have st4:tn 0 s4.heap:=T.keep _ _ _ st3 fun b _ o e=>by rw [← hs4]; exact pushCells_keeps _ _ _ _ (Heap.get?_push_of_some _ e)
 -- the block's context,its exceptions going on behind it
 let xe:Value → Shared → Prop:=notedBy (model X.prog X.w) X.A (compEnvC scope cl C X.env) fun e t=>cpF (model X.prog X.w) X.A X.xe use Qf (.ref D) C (some L) (.error e) t
 have I5:L2.Inv (BkX X scope s3 H3 C cl fp [] xe) [] (wipe σ (own.map (·.2))) H3 s4:=Q84 I4 xe fun p hp=>nomatch hp
 have tkB:TkL (BkX X scope s3 H3 C cl fp [] xe) L fun c d _ H=>W c d σ H:=fun u t x =>
  Q88 I3 (Jw hC) (fun b hb=>⟨(f3 b hb).1.2.2.2.1,(f3 b hb).1.2.1,(f3 b hb).1.2.2.2.2.1,(f3 b hb).1.2.2.2.2.2⟩) tk hst h0 hf x
 have pg:=hg s3 H3 C cl fp [] xe
 have pt:=ht s3 H3 C cl fp [] xe
 have pe:=he _ s3 H3 C cl fp [] xe tkB
 have at':∀ {τ:L2.St} {H':Hp} {t:Shared},L2.Inv (BkX X scope s3 H3 C cl fp [] xe) [] τ H' t → (∀ b ∈ fp,H' b = none) → ∀ b ∈ fp,FpOk (BkX X scope s3 H3 C cl fp [] xe) [] H' b:=fun {τ H' t} I' n b hb =>
  ⟨n b hb,(I'.ok.exf b hb).1,I'.ok.exfs b hb,.inl hb,fun x c e=>(I'.ok.exf b hb).2 x c e,fun p hp=>nomatch (show p ∈ ([]:List (Addr × Obj)) from hp)⟩
 have loop:codeAny (model X.prog X.w) X.A (.compLoop (.ListComp elt [⟨tg,iter,ifs,0⟩] scope pos) 0 (.ref it) (.ref D) (compEnvC scope cl C X.env)) (cpF (model X.prog X.w) X.A X.xe use Qf (.ref D) C (some L)) s4:=by
  refine compLoop_any (fun n t=>∃ i H',L2.Inv (BkX X scope s3 H3 C cl fp [] xe) [] (wipe σ (own.map (·.2))) H' t ∧ tn i t.heap ∧ (∀ b ∈ fp,H' b = none) ∧ W_ i n H') ?_ m0 ⟨0,H3,I5,st4,fun b hb=>(f3 b hb).1.1,w0⟩
  rintro n t5 ⟨i,H5,J5,st5,n5,w5⟩
  rcases turn i n H5 w5 with ⟨stop,qq⟩ | ⟨go,Nx,hNx,step⟩
  ·refine wpAny_mono (T.done (BkX X scope s3 H3 C cl fp [] xe) rfl rfl rfl hc i [] t5 _ H5 xe J5 (at' J5 n5) st5 stop) (fun r t6 hr=>?_) fun _ _ z=>z
   obtain ⟨rfl,J6⟩:=hr
   have I7:L2.Inv X pins σ H5 t6:=I3.call' (ch:=fp) J6.os J6.base J6.hok J6.bare fun b hb=>⟨(f3 b hb).1.2.2.2.1,(f3 b hb).1.2.1,(f3 b hb).1.2.2.2.2.1,(f3 b hb).1.2.2.2.2.2⟩
   obtain ⟨m,hn,_⟩:=J6.loc
   exact hRR D C t6 m H5 I7 qq hn (I3.fpOk (Jw hC) J6.free)
  ·refine wpAny_mono (T.item (BkX X scope s3 H3 C cl fp [] xe) rfl rfl rfl hc i [] t5 _ H5 xe J5 (at' J5 n5) st5 go) (fun r t6 hr=>?_) fun _ _ z=>z
   obtain ⟨u,rfl,h6⟩:=hr
   refine wpAny_mono h6 (fun _ t7 h7=>?_) fun _ _ z=>z
   obtain ⟨x,H7,J7,r7,y7,st7,n7⟩:=h7
   have P7:=J7.pinned (at' J7 n7) (T.obj _ _ st7)
   refine wpAny_mono (pg.run _ t7 _ H7 x u _ P7 r7 (step x H7 y7)) (fun _ t8 h8=>?_) fun _ _ z=>z
   obtain ⟨σ8,H8,J8,hw8,q8⟩:=h8
   refine wpAny_mono (pt.run _ t8 σ8 H8 _ J8 q8) (fun b t9 h9=>?_) fun _ _ z=>z
   obtain ⟨H9,J9,q9⟩:=h9
   have fin:∀ {t:Shared} {H':Hp},L2.Inv (BkX X scope s3 H3 C cl fp [] xe) ([] ++ pinsAt fp t7.heap) σ8 H' t → Nx H' → ∃ m,m < n ∧ ∃ i H',L2.Inv (BkX X scope s3 H3 C cl fp [] xe) [] (wipe σ (own.map (·.2))) H' t ∧ tn i t.heap ∧ (∀ b ∈ fp,H' b = none) ∧ W_ i m H':=fun {t H'} I' nx=>by
    obtain ⟨m',hm,w'⟩:=hNx H' nx
    have pin:∀ b ∈ fp,∀ o,t7.heap.get? b = some o → t.heap.get? b = some o ∧ H' b = none:=fun b hb o e =>
     let z:=I'.pin (b,o) (Q8 _ (Q8 _ (mem_pinsAt hb e)))
     ⟨z.1,z.2.1⟩
    refine ⟨m',hm,i + 1,H',(I'.unpinned (pins:=[])).weak (by rw [← hw8,wipe_length]) (fun j v e=>?_),T.keep _ _ _ st7 fun b hb o e=>(pin b hb o e).1,fun b hb=>?_,w'⟩
    ·rw [← hw8] at e
     exact (wipe_some e).1
    ·obtain ⟨o,e,_⟩:=T.obj _ _ st7 b hb
     exact (pin b hb o e).2
   cases b with
   | false =>
    simp only [J1,if_false] at q9 ⊢
    exact fin J9 q9
   | true =>
    simp only [if_true] at q9 ⊢
    refine wpAny_mono (pe.run _ t9 σ8 H9 _ J9 q9) (fun z t10 h10=>?_) fun _ _ z=>z
    obtain ⟨yv,H10,J10,r10,acc,hD10,hz10,nx⟩:=h10
    exact app_ok (X:=BkX X scope s3 H3 C cl fp [] xe) J10 hD10 hz10 r10 fun t11 J11=>fin J11 nx
 exact codeAny_compStart_list loop (T.self X.A 0 _ _ _ st4 loop)
end Z
namespace Z
open PySem PySem.Spec PyProof.Rows L2
inductive Rl where
 | ok (l:List D)
 | ex (c:Str)
def Q7t (l:List D):Rl → Rl
 | .ok r=>.ok (l ++ r)
 | .ex e=>.ex e
def Q6j (d:D):Rl → Rl
 | .ok r=>.ok (d :: r)
 | .ex e=>.ex e
theorem Q7a (r:Rl):Q7t [] r = r:=by cases r <;> rfl
theorem Q5S (l:List D) (d:D) (r:Rl):Q7t l (Q6j d r) = Q7t (l ++ [d]) r:=by
 cases r with
 | ok r=>unfold Q7t Q6j; simp
 | ex e=>rfl
def Wf (T:Tt) (vs:List Nat) (c:List Sl → Option (Bool × List Sl)) (f:List Sl → Option (Rs × List Sl)):List D → List Sl → Option (Rl × List Sl)
 | [],δ=>some (.ok [],δ)
 | d :: r,δ=>(Xp T d δ).bind fun δ1=>(c δ1).bind fun p=>match p.1 with
  | true=>(f p.2).bind fun q=>match q.1 with
   | .ex e=>some (.ex e,Xg vs q.2)
   | .ok d=>(Wf T vs c f r (Xg vs q.2)).map fun z=>(Q6j d z.1,z.2)
  | false=>Wf T vs c f r (Xg vs p.2)
def rlS:Rl → Rs
 | .ok l=>.ok (.list l)
 | .ex e=>.ex e
def Q0F (T:Tt) (vs:List Nat) (it:List Sl → Option (List D × List Sl)) (c:List Sl → Option (Bool × List Sl)) (f:List Sl → Option (Rs × List Sl)):List Sl → Option (Rs × List Sl):=fun δ=>(it δ).bind fun p =>
 if noS vs p.2 && decide (p.1.length ≤ sizeLine) then (Wf T vs c f p.1 p.2).map fun q=>(rlS q.1,q.2) else none
def Q5E (K:PySem.W.Frag) (f:List Sl → Option (Rs × List Sl)) (M:List Nat) (W:WX):TE:=fun σ H Q=>∃ (Y:Fx) (F:Hp) (δ:List Sl) (A:Nat → List Addr) (r:Rs) (δ':List Sl),SR K Y F H δ σ A ∧ f δ = some (r,δ') ∧
 match r with
 | .ok d=>∀ v F' H',Stp A M F H F' H' → SR K Y F' H' δ' σ A → Rp K F' v d → Q v H'
 | .ex c=>∀ F' H' C,Stp A M F H F' H' → SR K Y F' H' δ' σ A → Vf K c C → W (.ref C) none σ H'
theorem EVX.pe {X:Cx} {W:WX} {e:Expr} {f M} (h:EVX X W e f M):PE X e (Q5E X.K f M W):=by
 obtain ⟨t,p,q⟩:=h
 refine ⟨fun pins s σ H Q I z=>?_⟩
 obtain ⟨Y,F,δ,A,r,δ',S,e1,k⟩:=z
 exact p.run pins s σ H Q I (q Y F H δ σ A S r δ' e1 Q k)
theorem Q7R {K:PySem.W.Frag} {Y:Fx} {F1 H1 F' H':Hp} {δ1 δ':List Sl} {σ:L2.St} {A:Nat → List Addr} {vs:List Nat} (S1:SR K Y F1 H1 δ1 σ A) (hA:∀ j ∈ vs,A j = []) (hio:∀ j ∈ vs,Y.io j = false) (S':SR K Y F' H' δ' (wipe σ vs) A) (hno:noS vs δ' = true):SR K Y F' H' δ' σ A:=by
 refine ⟨by rw [S'.len,wipe_length],fun j t et=>?_,S'.out,S'.dis,S'.hid,S'.new,S'.sub,fun j h1=>?_,S'.ioA,S'.kp,S'.nw,S'.f0,S'.lio,fun j c0 fs0 eo=>?_,S'.vno⟩
 ·by_cases cj:j ∈ vs
  ·rw [Wh hno cj] at et
   cases et
   exact hA j cj
  ·have:=S'.slot j t et
   rw [Xs cj] at this
   exact this
 ·have cj:j ∉ vs:=fun z=>by rw [S1.nlt (hio j z)] at h1; cases h1
  have:=S'.fix j h1
  rw [Xs cj] at this
  exact this
 ·have cj:j ∉ vs:=fun z=>by
   rw [Wh hno z] at eo
   cases eo
  obtain ⟨h1,h2⟩:=S'.ob j c0 fs0 eo
  rw [Xs cj] at h2
  refine ⟨h1,fun p0 C0 dx0 fvs0 e10 e20=>?_⟩
  rw [h2 p0 C0 dx0 fvs0 e10 e20]
  exact Q10 fun q hq=>Xs fun z=>by have:=h1 q hq; rw [S1.nvt (hio q.2 z)] at this; cases this
theorem Q6B {X:Cx} {W:WX} {T:Tt} {vs:List Nat} {f c fe} {R M Mt Me:List Nat} {wi:TI}
  (hi:∀ (Y:Fx) (F H:Hp) (δ:List Sl) (σ:L2.St) (A:Nat → List Addr),SR X.K Y F H δ σ A → ∀ (ds:List D) (δ':List Sl),f δ = some (ds,δ') → ∀ Q:It → Hp → Prop,
   (∀ J F' H',Stp A M F H F' H' → SR X.K Y F' H' δ' σ A → Wk X.K F' (ex R A F' H') J ds → Q J H') → wi σ H Q)
  (hT:∀ j ∈ tS T,j ∈ vs) (dj:∀ i ∈ R,i ∉ Mt ++ Me:=by decide) (Y:Fx) (F H:Hp) (δ:List Sl) (σ:L2.St) (A:Nat → List Addr) (S:SR X.K Y F H δ σ A) (z:Rs) (δ':List Sl) (e:Q0F T vs f c fe δ = some (z,δ')) (Q:VK)
  (k:match (generalizing:=false) z with
   | .ok z=>∀ p F' H',Stp A (M ++ (Mt ++ Me)) F H F' H' → SR X.K Y F' H' δ' σ A → H p = none → F' p = none → Kc X.K F' H' p z → Q (.ref p) H'
   | .ex c=>∀ F' H' C,Stp A (M ++ (Mt ++ Me)) F H F' H' → SR X.K Y F' H' δ' σ A → Vf X.K c C → W (.ref C) none σ H') :
  tLc wi (tGV X.K T) (tTV X.K c Mt) (Q5E X.K fe Me (fun c d _ H=>W c d σ H)) vs σ H Q:=by
 unfold Q0F at e
 cases e1:f δ with
 | none=>rw [e1] at e; cases e
 | some w =>
  obtain ⟨ds,δ1⟩:=w
  rw [e1] at e
  simp only [Q1] at e
  split at e
  ·rename_i cn
   rw [Q4,decide_eq_true_eq] at cn
   obtain ⟨cn,csz⟩:=cn
   cases e2:Wf T vs c fe ds δ1 with
   | none=>rw [e2] at e; cases e
   | some w =>
    obtain ⟨zs,δ2⟩:=w
    rw [e2] at e
    cases e
    refine hi Y F H δ σ A S ds δ1 e1 _ fun J F1 H1 st S1 wk=>?_
    intro p hp
    have hpF:F1 p = none:=S1.sub.free hp
    have hA:∀ j ∈ vs,A j = []:=S1.noA cn
    have hio:∀ j ∈ vs,Y.io j = false:=fun j hj=>by
     cases q:Y.io j with
     | false=>rfl
     | true=>exact absurd (Wh cn hj) (S1.vno j q)
    have hl1:∀ j ∈ vs,j < δ1.length:=fun j hj=>(Q5.mp (Wh cn hj)).1
    have Sw:SR X.K Y F1 H1 δ1 (wipe σ vs) A:=by
     have q:=S1.wiped (vs:=vs) (σ:=σ) rfl hA hio hl1
     rw [Q48 cn] at q
     exact q
    -- the invariant
    let Inv_:Nat → Hp → Prop:=fun i H'=>∃ F' δ' zs' acc,Stp A (Mt ++ Me) F1 H1 F' H' ∧ SR X.K Y F' H' δ' (wipe σ vs) A ∧ H' p = some (.lst acc) ∧ F' p = none ∧ Rps X.K F' acc zs' ∧ acc.length ≤ i ∧ δ'.length = δ1.length ∧ noS vs δ' = true ∧
     ∃ zr,Wf T vs c fe (ds.drop i) δ' = some (zr,δ2) ∧ zs = Q7t zs' zr
    have start:Inv_ 0 (upd H1 p (.lst [])):=⟨F1,δ1,[],[],Stp.laidO hp,Sw.laidO hp,upd_same,hpF,.nil,Jb _,rfl,cn,zs,by rw [List.drop_zero]; exact e2,(Q7a _).symm⟩
    have seen:∀ {F' H' δ'},Stp A (Mt ++ Me) F1 H1 F' H' → SR X.K Y F' H' δ' (wipe σ vs) A → Same (ex R A F1 H1) H':=fun {F' H' δ'} st' S' a o ea=>by
     unfold ex at ea
     by_cases ca:∃ i ∈ R,a ∈ A i
     ·rw [if_pos ca] at ea
      obtain ⟨i,hi,ha⟩:=ca
      refine st'.kp a o ea fun j hj hz=>?_
      have:=S1.dis j i a hz ha
      subst this
      exact dj _ hi hj
     ·rw [if_neg ca] at ea
      exact S'.sub a o (st'.f a o ea)
    refine ⟨fun i m H'=>m = ds.length - i ∧ i ≤ ds.length ∧ Inv_ i H',⟨ds.length,by simp,Jh _,start⟩,?_⟩
    rintro i m H' ⟨rfl,hi,F',δ',zs',acc,st',S',hD,hDF,ra,hal,hl,hno,zr,ec,ezs⟩
    have nA:∀ j,p ∉ A j:=fun j hj=>S1.isSome hj hp
    by_cases hlt:i < ds.length
    ·have hd:ds.drop i = ds[i] :: ds.drop (i + 1):=List.drop_eq_getElem_cons hlt
     rw [hd] at ec
     unfold Wf at ec
     cases e3:Xp T ds[i] δ' with
     | none=>rw [e3] at ec; cases ec
     | some δ3 =>
      rw [e3] at ec
      simp only [Q1] at ec
      cases e4:c δ3 with
      | none=>rw [e4] at ec; cases ec
      | some w =>
       obtain ⟨b,δ4⟩:=w
       rw [e4] at ec
       simp only [Q1] at ec
       refine .inr ⟨wk.go i H' hlt (seen st' S'),fun H2=>Inv_ (i + 1) H2,fun H2 h=>⟨ds.length - (i + 1),by omega,rfl,by omega,h⟩,fun x H2 y=>?_⟩
       have main:∀ F2,Stp A (Mt ++ Me) F1 H1 F2 H2 → Same F' F2 → SR X.K Y F2 H2 δ' (wipe σ vs) A → H2 p = some (.lst acc) → F2 p = none → Rp X.K F2 x ds[i] →
         tGV X.K T x (wipe σ vs) H2 fun σ2 H2=>wipe σ2 vs = wipe σ vs ∧ tTV X.K c Mt σ2 H2 fun b H3 =>
          if b = true then Q5E X.K fe Me (fun c d _ H=>W c d σ H) σ2 H3 fun y H4=>∃ acc,H4 p = some (.lst acc) ∧ acc.length < sizeLine ∧ Inv_ (i + 1) (upd H4 p (.lst (acc ++ [y]))) else Inv_ (i + 1) H3:=by
        intro F2 st2 s2 S2 hD2 hF2 r2
        refine ⟨Y,F2,δ',A,ds[i],δ3,fun j hj=>hio j (hT j hj),S2,r2,e3,fun σ3 A3 bt S3=>?_⟩
        have eA:A3 = A:=by
         funext j
         by_cases c:j ∈ tS T
         ·rw [bt.e j c,hA j (hT j c)]
         ·exact bt.a j c
        subst eA
        have hl3:σ3.length = (wipe σ vs).length:=by
         rw [← S3.len,← S2.len]
         exact Kp e3
        have hw:wipe σ3 vs = wipe σ vs:=by
         have q:wipe σ3 vs = wipe (wipe σ vs) vs:=Q1Q hl3 fun j hj=>bt.s j fun z=>hj (hT j z)
         rw [q]
         exact Q1Q (wipe_length _ _) fun j hj=>Xs hj
        refine ⟨hw,Y,F2,δ3,A3,b,δ4,S3,e4,fun F3 H3 st3 S4=>?_⟩
        have st3':=(st2.trans S2 st3).mono (M':=Mt ++ Me) fun j hj=>by
         rcases Qj.mp hj with z | z
         ·exact z
         ·exact Q7 _ z
        have hD3:H3 p = some (.lst acc):=st3.kp p _ hD2 fun j _ hz=>nA j hz
        have hF3:F3 p = none:=by
         cases q:F3 p with
         | none=>rfl
         | some o =>
          have:=st3.nw p hF2 (by rw [q]; simp)
          rw [hD2] at this
          cases this
        have hl4:δ4.length = δ1.length:=by
         rw [S4.len,hl3,← S2.len]
         exact hl
        have hls4:∀ j ∈ vs,j < δ4.length:=fun j hj=>by rw [hl4]; exact hl1 j hj
        cases b with
        | false =>
         refine iteF ⟨F3,Xg vs δ4,zs',acc,st3',S4.wiped hw hA hio hls4,hD3,hF3,ra.mono (s2.trans st3.f),by omega,by rw [Y9]; exact hl4,?_,zr,ec,ezs⟩
         exact Qh.mpr fun j hj=>by rw [Va hj (hls4 j hj)]
        | true =>
         refine iteT ?_
         simp only at ec
         cases e5:fe δ4 with
         | none=>rw [e5] at ec; cases ec
         | some w =>
          obtain ⟨rs,δ5⟩:=w
          rw [e5] at ec
          simp only [Q1] at ec
          cases rs with
          | ex cx =>
           simp only [Qs.injEq,Prod.mk.injEq] at ec
           obtain ⟨rfl,rfl⟩:=ec
           subst ezs
           refine ⟨Y,F3,δ4,A3,.ex cx,δ5,S4,e5,fun F4 H4 C st4 S5 hC=>?_⟩
           have st4':=(st3'.trans S4 st4).mono (M':=Mt ++ Me) fun j hj=>by
            rcases Qj.mp hj with z | z
            ·exact z
            ·exact Q8 _ z
           have hl5:δ5.length = δ1.length:=by
            rw [S5.len,hl3,← S2.len]
            exact hl
           have hls5:∀ j ∈ vs,j < δ5.length:=fun j hj=>by rw [hl5]; exact hl1 j hj
           exact k F4 H4 C (st.trans S1 st4') (Q7R S1 hA hio (S5.wiped hw hA hio hls5) (Qh.mpr fun j hj=>by rw [Va hj (hls5 j hj)])) hC
          | ok d =>
           cases e6:Wf T vs c fe (ds.drop (i + 1)) (Xg vs δ5) with
           | none=>rw [e6] at ec; cases ec
           | some w =>
            obtain ⟨zr',δ6⟩:=w
            rw [e6] at ec
            simp only [Qx,Qs.injEq,Prod.mk.injEq] at ec
            obtain ⟨rfl,rfl⟩:=ec
            refine ⟨Y,F3,δ4,A3,.ok d,δ5,S4,e5,fun v F4 H4 st4 S5 r4=>?_⟩
            have st4':=(st3'.trans S4 st4).mono (M':=Mt ++ Me) fun j hj=>by
             rcases Qj.mp hj with z | z
             ·exact z
             ·exact Q8 _ z
            have hD4:H4 p = some (.lst acc):=st4.kp p _ hD3 fun j _ hz=>nA j hz
            have hF4:F4 p = none:=by
             cases q:F4 p with
             | none=>rfl
             | some o =>
              have:=st4.nw p hF3 (by rw [q]; simp)
              rw [hD3] at this
              cases this
            have hl5:δ5.length = δ1.length:=by
             rw [S5.len,hl3,← S2.len]
             exact hl
            have hls5:∀ j ∈ vs,j < δ5.length:=fun j hj=>by rw [hl5]; exact hl1 j hj
            have Sf:SR X.K Y F4 (upd H4 p (.lst (acc ++ [v]))) δ5 σ3 A3:=S5.upd_free hF4 nA (by
             cases q:Y.H0 p with
             | none=>rfl
             | some o=>rw [S1.fresh0 hp] at q; cases q)
            refine ⟨acc,hD4,by omega,F4,Xg vs δ5,zs' ++ [d],acc ++ [v],?_,Sf.wiped hw hA hio hls5,upd_same,hF4,((ra.mono ((s2.trans st3.f).trans st4.f)).append (.cons r4 .nil)),by rw [Qc]; simp; omega,by rw [Y9]; exact hl5,?_,zr',e6,by rw [ezs,Q5S]⟩
            ·exact ⟨st4'.f,st4'.nw,fun a o ea hn=>by rw [upd_ne (ne_of_none ea hp)]; exact st4'.kp a o ea hn⟩
            ·exact Qh.mpr fun j hj=>by rw [Va hj (hls5 j hj)]
       have sE:=seen st' S'
       rcases wk.yld i H' x H2 _ sE y (Q6 hlt) with ⟨rfl,r⟩ | ⟨U,xs,es,nU,rfl,rfl,e5,r⟩
       ·exact main F' st' (Same.refl _) S' hD hDF (r.mono st'.f)
       ·have l:=Stp.laid (M:=[]) (o:=.tup xs) S' nU
        have npU:p ≠ U:=ne_of_none hD nU
        refine main _ (Xq S' st' l) l.f (S'.laid nU) (by rw [upd_ne npU]; exact hD) (by rw [upd_ne npU]; exact hDF) ?_
        rw [e5]
        exact .tup (.inl (.inl upd_same)) (r.mono (st'.f.trans l.f))
    ·have hi2:i = ds.length:=by omega
     subst hi2
     rw [List.drop_length] at ec
     unfold Wf at ec
     simp only [Qs.injEq,Prod.mk.injEq] at ec
     obtain ⟨rfl,rfl⟩:=ec
     have ezs:zs = .ok zs':=by rw [ezs]; show Rl.ok (zs' ++ []) = _; rw [Qz]
     subst ezs
     exact .inl ⟨wk.stop H' (seen st' S'),k p F' H' (st.trans S1 st') (Q7R S1 hA hio S' hno) (Q6y st S1 hp) hDF ⟨acc,hD,ra⟩⟩
  ·cases e
section
variable {X:Cx} {W:WX} {T:Tt} {f c} {fe:List Sl → Option (Rs × List Sl)} {R M Mt Me:List Nat} {elt tg iter:Expr} {ifs:List Expr} {scope:Scope} {own:List (Str × Nat)} {pos:Pos} {wi:TI} {g:TG} {tt:TT} {te:WX → TE} {L:Addr} {e0:Env} {o0:List Env}
def tLx (wi:TI) (g:TG) (tt:TT) (te:WX → TE) (W:WX) (vs:List Nat):TE:=fun σ H Q=>tLc wi g tt (te fun c d _ H=>W c d σ H) vs σ H Q
theorem Qar (hc:X.calm = true) (hN:X.N.Nodup) (hi:PI X tg iter wi) (ok:BlkOk X.N X.env.scope scope own) (tk:TkL X L W) (hst:X.stack = e0 :: o0) (h0:e0.frame = some L) (hf:X.env.frame = some L)
  (hg:∀ s H C cl fp pn xe,PG (BkX X scope s H C cl fp pn xe) tg g) (ht:∀ s H C cl fp pn xe,PTs (BkX X scope s H C cl fp pn xe) ifs tt)
  (he:∀ W' s H C cl fp pn xe,TkL (BkX X scope s H C cl fp pn xe) L W' → PE (BkX X scope s H C cl fp pn xe) elt (te W')) (hs:∀ x,foldedSetIterable iter X.env x = pure x:=by intro _; rfl) :
  PE X (.ListComp elt [⟨tg,iter,ifs,0⟩] scope pos) (tLx wi g tt te W (own.map (·.2))):=by
 refine ⟨fun pins s σ H Q I h=>?_⟩
 rw [eval_ListComp]
 refine Q4e (use:=none) hc hN I hi ok tk hst h0 hf hg ht he hs h fun D C t m H' J q hn fr=>⟨m,hn,fun h2 sb=>?_⟩
 have J2:L2.Inv X pins σ H' { t with heap:=h2,toks:=t.toks }:=J.turned (fun b o hb e=>(sb.2 b hb).trans e) fr.1 fr.2.1 fr.2.2.2.1 fr.2.2.2.2.1 fr.2.2.2.2.2
 exact ⟨.ref D,H',J2,rfl,q⟩
theorem Q6i {i:Nat} {y:Str} {py spos:Pos} (hc:X.calm = true) (hN:X.N.Nodup) (hy:X.N[i]? = some y) (hl:X.env.scope.names.lookup y = some .local) (hsw:swapsWith (.ListComp elt [⟨tg,iter,ifs,0⟩] scope pos) (some (.Name y py)) spos.line X.env = pure true)
  (hi:PI X tg iter wi) (ok:BlkOk X.N X.env.scope scope own) (tk:TkL X L W) (hst:X.stack = e0 :: o0) (h0:e0.frame = some L) (hf:X.env.frame = some L)
  (hg:∀ s H C cl fp pn xe,PG (BkX X scope s H C cl fp pn xe) tg g) (ht:∀ s H C cl fp pn xe,PTs (BkX X scope s H C cl fp pn xe) ifs tt)
  (he:∀ W' s H C cl fp pn xe,TkL (BkX X scope s H C cl fp pn xe) L W' → PE (BkX X scope s H C cl fp pn xe) elt (te W')) (hs:∀ x,foldedSetIterable iter X.env x = pure x:=by intro _; rfl) :
  PS X (.Assign [.Name y py] (.ListComp elt [⟨tg,iter,ifs,0⟩] scope pos) spos) (tAsg (tLx wi g tt te W (own.map (·.2))) (gName i)):=by
 refine ⟨fun pins s σ H D I h=>?_⟩
 rw [exec_Assign_Name_used _ _ _ _ hsw]
 refine wpAny_bind (wpAny_standAt (wpAny_bind ?_))
 have h':tLc wi g tt (te fun c d _ H=>W c d σ H) (own.map (·.2)) σ H (fun x H1=>gName i x σ H1 D.nx):=h
 refine wpAny_bind (m:=comprehension (.ListComp elt [⟨tg,iter,ifs,0⟩] scope pos) scope X.env (firstIterPos [⟨tg,iter,ifs,0⟩] pos) (newList []) false (eval iter X.env) (some (assign (.Name y py) X.env))) ?_
 refine thn (Q4e (Qf:=fun _ t=>L2.SP X pins D .next t) hc hN I hi ok tk hst h0 hf hg ht he hs h' fun N C t m H' J q hn fr=>?_) fun _ t hq=>wpAny_pure (wpAny_pure hq)
 show wpAny _ _ (assign (.Name y py) X.env (.ref N)) _ _ _
 refine wpAny_assign_Name (store_ok2 (v:=V.ref N) J hN hy (.inl hl) rfl (fun t2 J2 ⟨b,sb,hb⟩=>?_) (.inr hl))
 have neb:C ≠ b:=by
  rcases hb with z | z
  ·rw [z]; exact fr.2.1
  ·exact fun e=>fr.2.2.2.2.1 y b z e.symm
 refine ⟨m,hn.sameBut sb neb,fun h3 sb3=>⟨_,H',?_,q⟩⟩
 exact J2.turned (t':=t2.toks) (fun b o hb e=>(sb3.2 b hb).trans e) fr.1 fr.2.1 fr.2.2.2.1 fr.2.2.2.2.1 fr.2.2.2.2.2
theorem Q67 {vs:List Nat} {δ δ':List Sl} {z:D} (e:Q0F T vs f c fe δ = some (.ok z,δ')):∃ l,z = .list l:=by
 unfold Q0F at e
 obtain ⟨p,_,e⟩:=Qi.mp e
 split at e
 ·obtain ⟨⟨q,δ2⟩,_,e⟩:=Qa.mp e
  cases q with
  | ok l=>cases e; exact ⟨l,rfl⟩
  | ex c=>cases e
 ·cases e
theorem Q5x (hi:∀ (Y:Fx) (F H:Hp) (δ:List Sl) (σ:L2.St) (A:Nat → List Addr),SR X.K Y F H δ σ A → ∀ (ds:List D) (δ':List Sl),f δ = some (ds,δ') → ∀ Q:It → Hp → Prop,
   (∀ J F' H',Stp A M F H F' H' → SR X.K Y F' H' δ' σ A → Wk X.K F' (ex R A F' H') J ds → Q J H') → wi σ H Q)
  (hT:∀ j ∈ tS T,j ∈ own.map (·.2)) (dj:∀ i ∈ R,i ∉ Mt ++ Me) (Y:Fx) (F H:Hp) (δ:List Sl) (σ:L2.St) (A:Nat → List Addr) (S:SR X.K Y F H δ σ A) (r:Rs) (δ':List Sl) (e:Q0F T (own.map (·.2)) f c fe δ = some (r,δ')) (Q:VK)
  (k:match (generalizing:=false) r with
   | .ok d=>∀ v F' H',Stp A (M ++ (Mt ++ Me)) F H F' H' → SR X.K Y F' H' δ' σ A → Rp X.K F' v d → Q v H'
   | .ex c=>∀ F' H' C,Stp A (M ++ (Mt ++ Me)) F H F' H' → SR X.K Y F' H' δ' σ A → Vf X.K c C → W (.ref C) none σ H') :
  tLx wi (tGV X.K T) (tTV X.K c Mt) (Q5E X.K fe Me) W (own.map (·.2)) σ H Q:=by
 refine Q6B (W:=W) hi hT dj Y F H δ σ A S r δ' e Q ?_
 cases r with
 | ex c=>exact k
 | ok z =>
  obtain ⟨ds,rfl⟩:=Q67 e
  intro p F1 H1 st1 S1 n f o
  obtain ⟨xs,hu,o2⟩:=id o
  obtain ⟨st3,S3,sF⟩:=SR.give S S1 st1 n f hu
  exact k _ _ _ st3 S3 (Q3u (d:=.list ds) ⟨xs,hu,o2⟩ sF (by rw [upd_same,hu]))
theorem Qb6 (hc:X.calm = true) (hN:X.N.Nodup) (hi:IV X tg iter f R M) (ok:BlkOk X.N X.env.scope scope own) (tk:TkL X L W) (hst:X.stack = e0 :: o0) (h0:e0.frame = some L) (hf:X.env.frame = some L)
  (hg:∀ s H C cl fp pn xe,GV (BkX X scope s H C cl fp pn xe) tg T) (ht:∀ s H C cl fp pn xe,TsV (BkX X scope s H C cl fp pn xe) ifs c Mt)
  (he:∀ W' s H C cl fp pn xe,TkL (BkX X scope s H C cl fp pn xe) L W' → EVX (BkX X scope s H C cl fp pn xe) W' elt fe Me)
  (hs:∀ x,foldedSetIterable iter X.env x = pure x:=by intro _; rfl) (hT:∀ j ∈ tS T,j ∈ own.map (·.2):=by decide) (dj:∀ i ∈ R,i ∉ Mt ++ Me:=by decide):EVX X W (.ListComp elt [⟨tg,iter,ifs,0⟩] scope pos) (Q0F T (own.map (·.2)) f c fe) (M ++ (Mt ++ Me)):=by
 obtain ⟨wi,pw,qi⟩:=hi
 refine ⟨_,Qar (g:=tGV X.K T) (tt:=tTV X.K c Mt) (te:=Q5E X.K fe Me) hc hN pw ok tk hst h0 hf (fun s H C cl fp pn xe=>(hg s H C cl fp pn xe).pg) (fun s H C cl fp pn xe=>(ht s H C cl fp pn xe).pts) (fun W' s H C cl fp pn xe t=>(he W' s H C cl fp pn xe t).pe) hs,fun Y F H δ σ A S r δ' e Q k=>?_⟩
 exact Q5x qi hT dj Y F H δ σ A S r δ' e Q k
theorem Q6o {io:Iom} {vt:Nat → Bool} {fr:FrO} {i:Nat} {y:Str} {py spos:Pos} (hio:io i = false) (Tg_:Tg X i y) (hc:X.calm = true) (hN:X.N.Nodup) (hl:X.env.scope.names.lookup y = some .local) (hsw:swapsWith (.ListComp elt [⟨tg,iter,ifs,0⟩] scope pos) (some (.Name y py)) spos.line X.env = pure true)
  (hi:IV X tg iter f R M) (ok:BlkOk X.N X.env.scope scope own) (tk:TkL X L W) (hst:X.stack = e0 :: o0) (h0:e0.frame = some L) (hf:X.env.frame = some L)
  (hg:∀ s H C cl fp pn xe,GV (BkX X scope s H C cl fp pn xe) tg T) (ht:∀ s H C cl fp pn xe,TsV (BkX X scope s H C cl fp pn xe) ifs c Mt)
  (he:∀ W' s H C cl fp pn xe,TkL (BkX X scope s H C cl fp pn xe) L W' → EVX (BkX X scope s H C cl fp pn xe) W' elt fe Me)
  (hs:∀ x,foldedSetIterable iter X.env x = pure x:=by intro _; rfl) (hT:∀ j ∈ tS T,j ∈ own.map (·.2):=by decide) (dj:∀ i ∈ R,i ∉ Mt ++ Me:=by decide):SX X W io vt fr (.Assign [.Name y py] (.ListComp elt [⟨tg,iter,ifs,0⟩] scope pos) spos) (Q2A i (Q0F T (own.map (·.2)) f c fe)):=by
 obtain ⟨wi,pw,qi⟩:=hi
 refine ⟨_,Q6i (g:=tGV X.K T) (tt:=tTV X.K c Mt) (te:=Q5E X.K fe Me) hc hN Tg_.at_ hl hsw pw ok tk hst h0 hf (fun s H C cl fp pn xe=>(hg s H C cl fp pn xe).pg) (fun s H C cl fp pn xe=>(ht s H C cl fp pn xe).pts) (fun W' s H C cl fp pn xe t=>(he W' s H C cl fp pn xe t).pe) hs,fun Y F H δ σ A hY hv S o e D k=>?_⟩
 unfold Q2A at e
 obtain ⟨⟨r,δ1⟩,e1,e2⟩:=Qi.mp e
 refine Q5x qi hT dj Y F H δ σ A S r δ1 e1 _ ?_
 cases r with
 | ok d =>
  simp only at e2
  split at e2
  ·rename_i hi
   cases e2
   exact fun v F1 H1 st S1 rv=>k _ F1 H1 _ st.f (S1.putFz hi (by rw [hY]; exact hio) rv)
  ·cases e2
 | ex c=>cases e2; exact fun F1 H1 C st S1 hC=>k σ σ F1 H1 A C st.f (GE.refl _) S1 hC
end
end Z
namespace Z
open PySem PySem.Spec PyProof.Rows L2
theorem Q73 {X:Cx} {pins:List (Addr × Obj)} {s:Shared} {σ:L2.St} {H:Hp} {Q:VK} {elt tg iter:Expr} {ifs:List Expr} {scope:Scope} {own:List (Str × Nat)} {pos pos':Pos} {wi:TI} {g:TG} {tt:TT} {te:TE} {use:Option (Value → Sem Unit)} {Qf:Value → Shared → Prop}
  (hc:L2H.HotC X) (hN:X.N.Nodup) (I:L2.Inv X pins σ H s) (hi:L2H.PIH X tg iter wi) (ok:BlkOk X.N X.env.scope scope own)
  (hg:∀ s H C cl fp pn xe,PG (BkX X scope s H C cl fp pn xe) tg g) (ht:∀ s H C cl fp pn xe,PTs (BkX X scope s H C cl fp pn xe) ifs tt)
  (he:∀ s H C cl fp pn xe,PE (BkX X scope s H C cl fp pn xe) elt te) (hs:∀ x,foldedSetIterable iter X.env x = pure x)
  (h:tLc wi g tt te (own.map (·.2)) σ H Q)
  (hRR:∀ D C t m H',L2.Inv X pins σ H' t → Q (.ref D) H' → t.heap.Ns C m → FpOk X pins H' C → compPost (model X.prog X.w) X.A X.xe use Qf (.ref D) C (.ok .next) t) :
  wpAny (model X.prog X.w) X.A (comprehension (.ListComp elt [⟨tg,iter,ifs,0⟩] scope pos) scope X.env pos' (newList []) false (eval iter X.env) use) Qf X.xe s:=by
 have fr:∀ y ∈ scope.names,y.2 = .free → ∃ c,X.env.cells.lookup y.1 = some c:=fun y hy e=>I.ok.has _ ((ok.free y hy e).imp id id)
 refine Q35 (use:=use) rfl hs (closure_ok fr) ok.kind (fun y hy e=>by rw [ok.uniq y hy,e]) (thn (hi.run pins s σ H _ I h) fun xv s1 hx=>thn hx fun itv s2 h2=>?_)
 obtain ⟨it,fp,tn,J,H2,rfl,I2,T,st2,f2,q⟩:=h2
 refine wpAny_newObj_type (newEnv_comp ?_) (by show 0 ≤ sizeLine; decide)
 generalize hD:s2.heap.objs.size = D
 have nD:H2 D = none:=I2.hok.fresh (Jw hD)
 obtain ⟨W_,⟨m0,w0⟩,turn⟩:=q D nD
 generalize hs3:({ s2 with heap:=s2.heap.push { cls:=.type "list",data:=.seq ([]:List Value).toArray } }:Shared) = s3
 have I3:L2.Inv X pins σ (upd H2 D (.lst [])) s3:=by
  rw [← hs3]
  refine I2.laid (t':=s2.toks) (fun b o e=>Heap.get?_push_of_some _ e) (Jw hD) ⟨Jh _,[],0,.nil,?_⟩
  rw [← hD]
  exact Heap.get?_push_size _ rfl
 have e3:s3.heap = s2.heap.push { cls:=.type "list",data:=.seq ([]:List Value).toArray }:=by rw [← hs3]
 have f3:∀ b ∈ fp,FpOk X pins (upd H2 D (.lst [])) b ∧ b < s3.heap.objs.size:=fun b hb=>by
  obtain ⟨o,e,_⟩:=T.obj _ _ st2 b hb
  have lt:=Heap.lt_size e
  refine ⟨⟨?_,(f2 b hb).2⟩,by rw [e3,Heap.size_push]; exact Nat.lt_succ_of_lt lt⟩
  rw [upd_ne (by rw [← hD]; exact Je lt)]
  exact (f2 b hb).1
 have st3:tn 0 s3.heap:=T.keep _ _ _ st2 fun b _ o e=>by rw [e3]; exact Heap.get?_push_of_some _ e
 generalize hcl:cellsFrom (s3.heap.objs.size + 1) scope.names (cloFrom X.env.cells scope.names []) = cl
 have I4:=block_start I3 ok hN f3
 rw [hcl] at I4
 generalize hC:s3.heap.objs.size = C at I4
 generalize hH3:upd H2 D (.lst []) = H3 at I3 I4 w0 f3
 show codeAny _ _ (.compStart (.ListComp elt [⟨tg,iter,ifs,0⟩] scope pos) 0 (.ref it) (.ref D) (compEnvC scope cl C X.env)) (cpF (model X.prog X.w) X.A X.xe use Qf (.ref D) C X.env.frame) { s3 with heap:=pushCells (s3.heap.push { cls:=.type "dict",data:=.dict #[] }) scope.names }
 generalize hs4:({ s3 with heap:=pushCells (s3.heap.push { cls:=.type "dict",data:=.dict #[] }) scope.names }:Shared) = s4 at I4 ⊢
 have st4:tn 0 s4.heap:=T.keep _ _ _ st3 fun b _ o e=>by rw [← hs4]; exact pushCells_keeps _ _ _ _ (Heap.get?_push_of_some _ e)
 -- the block's context,its exceptions going on behind it
 have pinX:∀ p ∈ X.pn,s4.heap.get? p.1 = some p.2 ∧ H3 p.1 = none ∧ p.1 ≠ C ∧ p.1 ∉ frs X.stack ∧ ∀ v,p.2.data ≠ .cell v:=fun p hp=>by
  obtain ⟨q1,q2,q3,q4,q5⟩:=I3.pin p (Q7 _ hp)
  refine ⟨by rw [← hs4]; exact pushCells_keeps _ _ _ _ (Heap.get?_push_of_some _ q1),q2,by rw [← hC]; exact Je (Heap.lt_size q1),fun z=>?_,q5⟩
  rcases Ql.mp (I3.stkSub _ z) with q | q
  ·exact q3 q
  ·exact q4 q
 have I5:L2.Inv (BkX X scope s3 H3 C cl fp X.pn fun _ _=>False) [] (wipe σ (own.map (·.2))) H3 s4:=Q84 I4 (fun _ _=>False) pinX
 have hcB:L2H.HotC (BkX X scope s3 H3 C cl fp X.pn fun _ _=>False):=hc
 have pg:=hg s3 H3 C cl fp X.pn fun _ _=>False
 have pt:=ht s3 H3 C cl fp X.pn fun _ _=>False
 have pe:=he s3 H3 C cl fp X.pn fun _ _=>False
 have at':∀ {τ:L2.St} {H':Hp} {t:Shared},L2.Inv (BkX X scope s3 H3 C cl fp X.pn fun _ _=>False) [] τ H' t → (∀ b ∈ fp,H' b = none) → ∀ b ∈ fp,FpOk (BkX X scope s3 H3 C cl fp X.pn fun _ _=>False) [] H' b:=fun {τ H' t} I' n b hb =>
  ⟨n b hb,(I'.ok.exf b hb).1,I'.ok.exfs b hb,.inl hb,fun x c e=>(I'.ok.exf b hb).2 x c e,fun p hp=>(f3 b hb).1.2.2.2.2.2 p (Q7 _ (by rw [Qz] at hp; exact hp))⟩
 have loop:codeAny (model X.prog X.w) X.A (.compLoop (.ListComp elt [⟨tg,iter,ifs,0⟩] scope pos) 0 (.ref it) (.ref D) (compEnvC scope cl C X.env)) (cpF (model X.prog X.w) X.A X.xe use Qf (.ref D) C X.env.frame) s4:=by
  refine compLoop_any (fun n t=>∃ i H',L2.Inv (BkX X scope s3 H3 C cl fp X.pn fun _ _=>False) [] (wipe σ (own.map (·.2))) H' t ∧ tn i t.heap ∧ (∀ b ∈ fp,H' b = none) ∧ W_ i n H') ?_ m0 ⟨0,H3,I5,st4,fun b hb=>(f3 b hb).1.1,w0⟩
  rintro n t5 ⟨i,H5,J5,st5,n5,w5⟩
  rcases turn i n H5 w5 with ⟨stop,qq⟩ | ⟨go,Nx,hNx,step⟩
  ·refine wpAny_mono (T.done (BkX X scope s3 H3 C cl fp X.pn fun _ _=>False) rfl rfl rfl hcB i [] t5 _ H5 (fun _ _=>False) J5 (at' J5 n5) st5 stop) (fun r t6 hr=>?_) fun _ _ z=>z.elim
   obtain ⟨rfl,J6⟩:=hr
   have I7:L2.Inv X pins σ H5 t6:=I3.call' (ch:=fp) J6.os J6.base J6.hok J6.bare fun b hb=>⟨(f3 b hb).1.2.2.2.1,(f3 b hb).1.2.1,(f3 b hb).1.2.2.2.2.1,(f3 b hb).1.2.2.2.2.2⟩
   obtain ⟨m,hn,_⟩:=J6.loc
   exact hRR D C t6 m H5 I7 qq hn (I3.fpOk (Jw hC) J6.free)
  ·refine wpAny_mono (T.item (BkX X scope s3 H3 C cl fp X.pn fun _ _=>False) rfl rfl rfl hcB i [] t5 _ H5 (fun _ _=>False) J5 (at' J5 n5) st5 go) (fun r t6 hr=>?_) fun _ _ z=>z.elim
   obtain ⟨u,rfl,h6⟩:=hr
   refine wpAny_mono h6 (fun _ t7 h7=>?_) fun _ _ z=>z.elim
   obtain ⟨x,H7,J7,r7,y7,st7,n7⟩:=h7
   have P7:=J7.pinned (at' J7 n7) (T.obj _ _ st7)
   refine wpAny_mono (pg.run _ t7 _ H7 x u _ P7 r7 (step x H7 y7)) (fun _ t8 h8=>?_) fun _ _ z=>z.elim
   obtain ⟨σ8,H8,J8,hw8,q8⟩:=h8
   refine wpAny_mono (pt.run _ t8 σ8 H8 _ J8 q8) (fun b t9 h9=>?_) fun _ _ z=>z.elim
   obtain ⟨H9,J9,q9⟩:=h9
   have fin:∀ {t:Shared} {H':Hp},L2.Inv (BkX X scope s3 H3 C cl fp X.pn fun _ _=>False) ([] ++ pinsAt fp t7.heap) σ8 H' t → Nx H' → ∃ m,m < n ∧ ∃ i H',L2.Inv (BkX X scope s3 H3 C cl fp X.pn fun _ _=>False) [] (wipe σ (own.map (·.2))) H' t ∧ tn i t.heap ∧ (∀ b ∈ fp,H' b = none) ∧ W_ i m H':=fun {t H'} I' nx=>by
    obtain ⟨m',hm,w'⟩:=hNx H' nx
    have pin:∀ b ∈ fp,∀ o,t7.heap.get? b = some o → t.heap.get? b = some o ∧ H' b = none:=fun b hb o e =>
     let z:=I'.pin (b,o) (Q8 _ (Q8 _ (mem_pinsAt hb e)))
     ⟨z.1,z.2.1⟩
    refine ⟨m',hm,i + 1,H',(I'.unpinned (pins:=[])).weak (by rw [← hw8,wipe_length]) (fun j v e=>?_),T.keep _ _ _ st7 fun b hb o e=>(pin b hb o e).1,fun b hb=>?_,w'⟩
    ·rw [← hw8] at e
     exact (wipe_some e).1
    ·obtain ⟨o,e,_⟩:=T.obj _ _ st7 b hb
     exact (pin b hb o e).2
   cases b with
   | false =>
    simp only [J1,if_false] at q9 ⊢
    exact fin J9 q9
   | true =>
    simp only [if_true] at q9 ⊢
    refine wpAny_mono (pe.run _ t9 σ8 H9 _ J9 q9) (fun z t10 h10=>?_) fun _ _ z=>z.elim
    obtain ⟨yv,H10,J10,r10,acc,hD10,hz10,nx⟩:=h10
    exact app_ok (X:=(BkX X scope s3 H3 C cl fp X.pn fun _ _=>False)) J10 hD10 hz10 r10 fun t11 J11=>fin J11 nx
 exact codeAny_compStart_list loop (T.self X.A 0 _ _ _ st4 loop)
section
variable {X:Cx} {W:WX} {T:Tt} {f c fe} {R M Mt Me:List Nat} {elt tg iter:Expr} {ifs:List Expr} {scope:Scope} {own:List (Str × Nat)} {pos:Pos} {wi:TI} {g:TG} {tt:TT} {te:TE}
theorem Q6a {i:Nat} {y:Str} {py spos:Pos} (hc:L2H.HotC X) (hN:X.N.Nodup) (hy:X.N[i]? = some y) (hl:X.env.scope.names.lookup y = some .local) (hsw:swapsWith (.ListComp elt [⟨tg,iter,ifs,0⟩] scope pos) (some (.Name y py)) spos.line X.env = pure true)
  (hi:L2H.PIH X tg iter wi) (ok:BlkOk X.N X.env.scope scope own) (hg:∀ s H C cl fp pn xe,PG (BkX X scope s H C cl fp pn xe) tg g) (ht:∀ s H C cl fp pn xe,PTs (BkX X scope s H C cl fp pn xe) ifs tt)
  (he:∀ s H C cl fp pn xe,PE (BkX X scope s H C cl fp pn xe) elt te) (hs:∀ x,foldedSetIterable iter X.env x = pure x:=by intro _; rfl) :
  PS X (.Assign [.Name y py] (.ListComp elt [⟨tg,iter,ifs,0⟩] scope pos) spos) (tAsg (tLc wi g tt te (own.map (·.2))) (gName i)):=by
 refine ⟨fun pins s σ H D I h=>?_⟩
 rw [exec_Assign_Name_used _ _ _ _ hsw]
 refine wpAny_bind (wpAny_standAt (wpAny_bind ?_))
 have h':tLc wi g tt te (own.map (·.2)) σ H (fun x H1=>gName i x σ H1 D.nx):=h
 refine wpAny_bind (m:=comprehension (.ListComp elt [⟨tg,iter,ifs,0⟩] scope pos) scope X.env (firstIterPos [⟨tg,iter,ifs,0⟩] pos) (newList []) false (eval iter X.env) (some (assign (.Name y py) X.env))) ?_
 refine thn (Q73 (Qf:=fun _ t=>L2.SP X pins D .next t) hc hN I hi ok hg ht he hs h' fun N C t m H' J q hn fr=>?_) fun _ t hq=>wpAny_pure (wpAny_pure hq)
 show wpAny _ _ (assign (.Name y py) X.env (.ref N)) _ _ _
 refine wpAny_assign_Name (store_ok2 (v:=V.ref N) J hN hy (.inl hl) rfl (fun t2 J2 ⟨b,sb,hb⟩=>?_) (.inr hl))
 have neb:C ≠ b:=by
  rcases hb with z | z
  ·rw [z]; exact fr.2.1
  ·exact fun e=>fr.2.2.2.2.1 y b z e.symm
 refine ⟨m,hn.sameBut sb neb,fun h3 sb3=>⟨_,H',?_,q⟩⟩
 exact J2.turned (t':=t2.toks) (fun b o hb e=>(sb3.2 b hb).trans e) fr.1 fr.2.1 fr.2.2.2.1 fr.2.2.2.2.1 fr.2.2.2.2.2
def IVH (X:Cx) (tg iter:Expr) (f:List Sl → Option (List D × List Sl)) (M:List Nat):Prop :=
 ∃ wi,L2H.PIH X tg iter wi ∧ ∀ (Y:Fx) (F H:Hp) (δ:List Sl) (σ:L2.St) (A:Nat → List Addr),SR X.K Y F H δ σ A → ∀ (ds:List D) (δ':List Sl),f δ = some (ds,δ') → ∀ Q:It → Hp → Prop,
  (∀ J F' H',Stp A M F H F' H' → SR X.K Y F' H' δ' σ A → Wk X.K F' (ex [] A F' H') J ds → Q J H') → wi σ H Q
theorem Q4B {a:Expr} {f} {R M:List Nat} {p pos:Pos} (hg:Gl X "range") (hm:X.mg "range" = none) (h:AV X [a] f R M) (hs:starEach [a] X.env = [(false,eval a X.env)]:=by rfl) (h1:∀ δ ds δ',f δ = some (ds,δ') → ds.length = 1):IVH X tg (.Call (.Name "range" p) [a] [] pos) (Q1f f) M:=by
 obtain ⟨ta,pa,q⟩:=h
 refine ⟨_,L2H.pi_range1H hg hm pa hs,fun Y F H δ σ A S ds δ' e Q k=>?_⟩
 unfold Q1f at e
 cases e1:f δ with
 | none=>rw [e1] at e; cases e
 | some w =>
  obtain ⟨es,δ1⟩:=w
  have hl:=h1 _ _ _ e1
  rw [e1] at e
  simp only [Q1] at e
  split at e
  ·split at e
   ·rename_i c
    cases e
    simp only [V1,Q4,decide_eq_true_eq] at c
    refine q Y F H δ σ A S _ _ e1 _ fun vs F1 H1 st S1 r=>?_
    obtain ⟨v,rfl,rv⟩:=r.one
    exact ⟨_,by rw [rv.int],c.1,c.2,k _ F1 H1 st S1 Q7w⟩
   ·cases e
  ·simp at hl
  ·cases e
theorem Q7O {vs:List Nat} {δ δ':List Sl} {z:D} (e:fLc T vs f c fe δ = some (z,δ')):∃ l,z = .list l:=by
 unfold fLc at e
 obtain ⟨p,_,e⟩:=Qi.mp e
 split at e
 ·obtain ⟨⟨q,δ2⟩,_,e⟩:=Qa.mp e
  cases e
  exact ⟨q,rfl⟩
 ·cases e
theorem Q8E {io:Iom} {fr:Fr} {i:Nat} {y:Str} {py spos:Pos} (hc:L2H.HotC X) (hN:X.N.Nodup) (hy:X.N[i]? = some y) (hl:X.env.scope.names.lookup y = some .local) (hsw:swapsWith (.ListComp elt [⟨tg,iter,ifs,0⟩] scope pos) (some (.Name y py)) spos.line X.env = pure true)
  (hi:IVH X tg iter f M) (ok:BlkOk X.N X.env.scope scope own) (hg:∀ s H C cl fp pn xe,GV (BkX X scope s H C cl fp pn xe) tg T) (ht:∀ s H C cl fp pn xe,TsV (BkX X scope s H C cl fp pn xe) ifs c Mt) (he:∀ s H C cl fp pn xe,EV (BkX X scope s H C cl fp pn xe) elt fe [] Me)
  (hs:∀ x,foldedSetIterable iter X.env x = pure x:=by intro _; rfl) (hT:∀ j ∈ tS T,j ∈ own.map (·.2):=by decide) (hio:io i = false):SV X io fr (.Assign [.Name y py] (.ListComp elt [⟨tg,iter,ifs,0⟩] scope pos) spos) (Yv i (fLc T (own.map (·.2)) f c fe)):=by
 obtain ⟨wi,pw,qi⟩:=hi
 refine ⟨_,Q6a (g:=tGV X.K T) (tt:=tTV X.K c Mt) (te:=tEV X.K fe [] Me) hc hN hy hl hsw pw ok (fun s H C cl fp pn xe=>(hg s H C cl fp pn xe).pg) (fun s H C cl fp pn xe=>(ht s H C cl fp pn xe).pts) (fun s H C cl fp pn xe=>(he s H C cl fp pn xe).pe) hs,fun Y F H δ σ A hY S o e D k=>?_⟩
 unfold Yv at e
 cases e1:fLc T (own.map (·.2)) f c fe δ with
 | none=>rw [e1] at e; cases e
 | some w =>
  obtain ⟨d,δ1⟩:=w
  rw [e1] at e
  simp only [Q1] at e
  split at e
  ·rename_i hi
   cases e
   obtain ⟨ds,rfl⟩:=Q7O e1
   refine Q3F (R:=[]) qi hT (fun i h=>nomatch h) Y F H δ σ A S _ δ1 e1 _ fun p F1 H1 st S1 n hF r=>?_
   obtain ⟨xs,hu,o2⟩:=id r
   obtain ⟨st3,S3,sF⟩:=SR.give S S1 st n hF hu
   exact k _ _ H1 _ st3.f (S3.putFz hi (by rw [hY]; exact hio) (Q3u (d:=.list ds) ⟨xs,hu,o2⟩ sF (by rw [upd_same,hu])))
  ·cases e
theorem Q6t {x:Str} {e:Expr} {ta:TA} {C:Addr} {bm:List Value} {B newId initId:String} {p pos:Pos} (F:ExcBaseFacts B newId initId bm) (q:PySem.W.excIn X.K C bm newId = true) (gC:X.mg x = some (.ref C)) (kC:PySem.W.keepIn X.K (.ref C) = true) (r:Raises X (.ref C)) (hg:Gl X x) (ha:PA X [e] ta)
  (hdb:(x == ("__debug__":Str)) = false:=by decide) (h1:starEach [e] X.env = (false,eval e X.env) :: starEach [] X.env:=by rfl):L2N.PMk X (.Call (.Name x p) [e] [] pos) (fun σ H Q=>ta σ H fun vs H1=>vs.length = 1 ∧ Q (.ref C) none H1):=by
 intro pins s σ H Q I h
 refine wpAny_Call_Name_kw (ld_glob I hg gC ?_ hdb)
 refine PySem.W.callWith_K (h₀:=X.base) I.ok.mod.kin kC (thn (ha.run pos pins s σ H _ I h) fun us t hh=>?_) (he:=h1)
 obtain ⟨vs,H1,J,rl,lv,w⟩:=hh
 refine ⟨J.kIn,?_⟩
 obtain ⟨bm',N,nm,qn,bs,hd,sn,sub,ab,col,dd,k0,k1,k2,k3,k5,mN,g1,g2,g3,g4⟩:=exc_obj J.kIn q
 have lu:us.length = 1:=by rw [← rl.length]; exact lv
 match us,lu with
 | [u],_ =>
  show wpAny _ _ (call (.ref C) [u]) _ _ _
  exact wpAny_call_exc_subT F g4 g1 g2 g3 (fun h' a hm=>L2N.mk_of J hm r w (J.hok.gone hm.new)) (by show 1 ≤ sizeLine; rw [sizeLine_eq]; omega)
end
def Y2 (c:Str) (f:List Sl → Option (D × List Sl)):List Sl → Option Ox:=fun δ=>(f δ).map fun p=>.ex c p.2
theorem Xx {X:Cx} {W:WX} {io:Iom} {vt:Nat → Bool} {fr:FrO} {c:Str} {e:Expr} {f} {M:List Nat} {p pos pos':Pos} (hc:X.calm = true) (tk:L2N.Takes X W) (xc:XC X.K X.mg c) (he:EV X e f [] M) (gl:Gl X c:=by rfl) (db:(c == ("__debug__":Str)) = false:=by decide) (h1:starEach [e] X.env = (false,eval e X.env) :: starEach [] X.env:=by rfl):SX X W io vt fr (.Raise (some (.Call (.Name c p) [e] [] pos)) none pos') (Y2 c f):=by
 obtain ⟨C,g1,g2,g3,g4,g5,g6⟩:=xc.ex
 obtain ⟨te,pe,q⟩:=he
 refine ⟨_,L2N.ps_raise hc tk (Q6t PySem.F.excBase_ValueError g3 g1 g4 (raises_own g5 g6) gl (pa_cons pe pa_nil h1) db h1),fun Y F H δ σ A hY hv S o e1 D k=>?_⟩
 unfold Y2 at e1
 obtain ⟨⟨d,δ1⟩,e2,e3⟩:=Qa.mp e1
 cases e3
 refine q Y F H δ σ A S d δ1 e2 _ fun v F1 H1 st S1 rv=>?_
 exact ⟨rfl,k σ σ F1 H1 A C st.f (GE.refl _) S1 g2⟩
theorem Qa2 {X:Cx} {a:Addr} {oe:Obj} {pn:List (Addr × Obj)} (hf:∃ vs,oe.data = Data.fields vs) (hn:PySem.PXN.CtxN oe):L2H.HotC (X.suite a ((a,oe) :: pn)):=by
 obtain ⟨vs,e⟩:=hf
 exact ⟨(a,oe),⟨rfl,vs,e,hn vs e⟩,Qe⟩
end Z
namespace Z
open PySem PySem.Spec PyProof.Rows L2
def exD (c:Str):D:=.dict [(.none,.str c)]
def Q1I:D → Bool
 | .dict [(.none,.str _)]=>true
 | _=>false
def unX (g:List Sl → Option Ox):Fg:=fun δ=>(g δ).bind fun o=>match o with
 | .ex c δ1=>some (.rt (exD c) δ1)
 | .o (.rt d δ1)=>if Q1I d then none else some (.rt d δ1)
 | .o o=>some o
def Q26 (g:Fg):Prop:=∀ δ d δ',g δ ≠ some (.rt d δ')
section
variable {g g' ga gb:Fg} {f fk fv fa fb fc:Fe} {fs:Fs} {i j l:Nat} {T:Tt} {G:List Sl → Bool} {c cc:Fb} {c1 s1:Str} {vs:List Nat}
theorem K0:Q26 (Yv i f):=fun δ d δ' h=>by
 unfold Yv at h
 obtain ⟨p,_,h⟩:=Qi.mp h
 split at h <;> cases h
theorem Qao:Q26 (Q2M i f):=fun δ d δ' h=>by
 unfold Q2M at h
 obtain ⟨p,_,h⟩:=Qi.mp h
 split at h <;> cases h
theorem Q81:Q26 Xe:=fun δ d δ' h=>by cases h
theorem Q9T (h:Q26 g) (h':Q26 g'):Q26 (Xb g g'):=fun δ d δ' e=>by
 unfold Xb at e
 obtain ⟨o,e1,e2⟩:=Qi.mp e
 cases o with
 | nx δ1=>exact h' δ1 d δ' e2
 | ct δ1=>cases e2
 | rt d1 δ1=>exact h δ d1 δ1 e1
theorem QbN (h:Q26 ga) (h':Q26 gb):Q26 (sIf cc ga gb):=fun δ d δ' e=>by
 unfold sIf at e
 obtain ⟨⟨b,δ1⟩,e1,e2⟩:=Qi.mp e
 cases b with
 | true=>exact h δ1 d δ' e2
 | false=>exact h' δ1 d δ' e2
end
section
variable {α β γ ε ρ:Type} {as:List Sl → Option (List Sl)} {δ δ1:List Sl} {g0:Fg} {g g' g1 g2 g3 ga gb:List Sl → Option Ox} {o oa ob:Option β} {r:β → Oc} {cc:Fb} {s:Bool} {i:Nat} {vs:List Nat} {c:Str}
theorem Q1P (nr:Q26 g0) (h:SB as (Xb g0 (unX g')) δ o r):SB as (unX (Jz (xS g0) g')) δ o r:=fun v hv=>by
 have e:unX (Jz (xS g0) g') δ = Xb g0 (unX g') δ:=by
  unfold unX Jz xS Xb
  cases e:g0 δ with
  | none=>rfl
  | some o =>
   cases o with
   | nx δ1=>rfl
   | ct δ1=>rfl
   | rt d δ1=>exact absurd e (nr _ _ _)
 rw [e]
 exact h v hv
theorem Xm (h:SB as (unX (Jz g1 (Jz g2 g3))) δ o r):SB as (unX (Jz (Jz g1 g2) g3)) δ o r:=fun v hv=>by
 have e:Jz (Jz g1 g2) g3 δ = Jz g1 (Jz g2 g3) δ:=by
  unfold Jz
  cases g1 δ with
  | none=>rfl
  | some o =>
   cases o with
   | ex c δ1=>rfl
   | o o =>
    cases o with
    | nx δ1=>rfl
    | ct δ1=>rfl
    | rt d δ1=>rfl
 have e2:unX (Jz (Jz g1 g2) g3) δ = unX (Jz g1 (Jz g2 g3)) δ:=by unfold unX; rw [e]
 rw [e2]
 exact h v hv
theorem Xr (h:SB as (unX g') δ o r):SB as (unX (Jz (xS Xe) g')) δ o r:=h
theorem Wo (hc:TP cc δ s) (ha:SB as (unX (Jz ga g')) δ oa r) (hb:SB as (unX (Jz gb g')) δ ob r):SB as (unX (Jz (Vo cc ga gb) g')) δ (if s then oa else ob) r:=fun v hv=>by
 have e:unX (Jz (Vo cc ga gb) g') δ = if s then unX (Jz ga g') δ else unX (Jz gb g') δ:=by
  unfold unX Jz Vo
  rw [show cc δ = some (s,δ) from hc]
  cases s <;> rfl
 rw [e]
 cases s
 ·exact hb v hv
 ·exact ha v hv
theorem Q2a {oc:Option α} {rc:α → Bool × List Sl} {bb:α → Bool} {oa ob:α → Option β} (hc:TN cc δ oc rc) (hb:∀ x,(rc x).1 = bb x) (ha:∀ x,SB as (unX (Jz ga g')) (rc x).2 (oa x) r) (hb2:∀ x,SB as (unX (Jz gb g')) (rc x).2 (ob x) r):SB as (unX (Jz (Vo cc ga gb) g')) δ (oc.bind fun x=>if bb x then oa x else ob x) r:=fun v hv=>by
 obtain ⟨x,hx,hv⟩:=Xw hv
 have e:unX (Jz (Vo cc ga gb) g') δ = if bb x then unX (Jz ga g') (rc x).2 else unX (Jz gb g') (rc x).2:=by
  unfold unX Jz Vo
  rw [hc x hx]
  show Option.bind (Option.bind (match (rc x).1 with | true=>ga (rc x).2 | false=>gb (rc x).2) _) _ = _
  rw [hb x]
  cases bb x <;> rfl
 rw [e]
 cases hq:bb x with
 | true=>rw [hq] at hv; exact ha x v hv
 | false=>rw [hq] at hv; exact hb2 x v hv
theorem Q51 {v:β} (h:r v = .nx (Xg vs δ)):SB as (unX (xS (Q1G vs))) δ (some v) r:=fun w hw=>by cases hw; rw [h]; rfl
theorem K6 {v:β} {outs:List Sl} (hr:r v = .rt (exD c) outs) (hm:as δ = some outs:=by rfl):SB as (unX (Jz (Zs c) g')) δ (some v) r:=fun w hw=>by
 cases hw
 rw [hr]
 exact ⟨δ,rfl,hm⟩
theorem Q6L {f:Fe} {d:D} {v:β} {outs:List Sl} (h:VP f δ d) (hr:r v = .rt d outs) (hm:as δ = some outs:=by rfl) (hd:Q1I d = false:=by rfl):SB as (unX (Jz (xR (Ym f)) g')) δ (some v) r:=fun w hw=>by
 cases hw
 rw [hr]
 refine ⟨δ,?_,hm⟩
 unfold unX Jz xR Ym
 rw [show f δ = some (d,δ) from h]
 show (if Q1I d then none else some (Out.rt d δ)) = _
 rw [hd]
 rfl
theorem Q9c {f:Fe} {oe:Option α} {re:α → D × List Sl} {v:α → β} {outs:α → List Sl} (h:VN f δ oe re) (hr:∀ x,r (v x) = .rt (re x).1 (outs x)) (hm:∀ x,as (re x).2 = some (outs x):=by intro _; rfl) (hd:∀ x,Q1I (re x).1 = false:=by intro _; rfl):SB as (unX (Jz (xR (Ym f)) g')) δ (oe.bind fun x=>some (v x)) r:=fun w hw=>by
 obtain ⟨x,hx,hw⟩:=Xw hw
 cases hw
 rw [hr]
 refine ⟨(re x).2,?_,hm x⟩
 unfold unX Jz xR Ym
 rw [h x hx]
 show (if Q1I (re x).1 then none else some (Out.rt (re x).1 (re x).2)) = _
 rw [hd x]
 rfl
def VX {α:Type} (f:List Sl → Option (Rs × List Sl)) (δ:List Sl) (o:Option α) (r:α → Rs × List Sl):Prop:=∀ a,o = some a → f δ = some (r a)
def eX (c:ε → Str) (δe:ε → List Sl) (d:ρ → D) (δk:ρ → List Sl):ε ⊕ ρ → Rs × List Sl:=Jm (fun e=>(.ex (c e),δe e)) (fun y=>(.ok (d y),δk y))
variable {f:List Sl → Option (Rs × List Sl)} {q:Option (ε ⊕ ρ)} {ce:ε → Str} {δe:ε → List Sl} {d:ρ → D} {δk:ρ → List Sl} {w:ε → β} {ok:ρ → Option β} {oute:ε → List Sl}
theorem Q6S (h:VX f δ q (eX ce δe d δk)) (hr:∀ e,r (w e) = .rt (exD (ce e)) (oute e)) (k:∀ y,SB as (unX g') (δk y) (ok y) r) (hm:∀ e,as (δe e) = some (oute e):=by intro _; rfl):SB as (unX (Jz (Q1t f) g')) δ (q.bind (Jm (fun e=>some (w e)) ok)) r:=fun v hv=>by
 obtain ⟨x,hx,hv⟩:=Xw hv
 have e:=h x hx
 cases x with
 | inl x =>
  cases hv
  rw [hr]
  refine ⟨δe x,?_,hm x⟩
  unfold unX Jz Q1t
  rw [e]
  rfl
 | inr y =>
  have e2:unX (Jz (Q1t f) g') δ = unX g' (δk y):=by
   unfold unX Jz Q1t
   rw [e]
   rfl
  rw [e2]
  exact k y v hv
theorem Q9S (h:VX f δ q (eX ce δe d δk)) (hr:∀ e,r (w e) = .rt (exD (ce e)) (oute e)) (k:∀ y,SB as (unX g') ((δk y).set i (.fz (d y))) (ok y) r) (hm:∀ e,as (δe e) = some (oute e):=by intro _; rfl) (hi:∀ y,decide (i < (δk y).length) = true:=by intro _; rfl):SB as (unX (Jz (Q2A i f) g')) δ (q.bind (Jm (fun e=>some (w e)) ok)) r:=fun v hv=>by
 obtain ⟨x,hx,hv⟩:=Xw hv
 have e:=h x hx
 cases x with
 | inl x =>
  cases hv
  rw [hr]
  refine ⟨δe x,?_,hm x⟩
  unfold unX Jz Q2A
  rw [e]
  rfl
 | inr y =>
  have e2:unX (Jz (Q2A i f) g') δ = unX g' ((δk y).set i (.fz (d y))):=by
   unfold unX Jz Q2A
   rw [e]
   show Option.bind (Option.bind (if i < (δk y).length then some (Ox.o (.nx ((δk y).set i (.fz (d y))))) else none) _) _ = _
   rw [if_pos (of_decide_eq_true (hi y))]
   rfl
  rw [e2]
  exact k y v hv
end
section
variable {β ε ρ:Type} {sg vls:List Bool} {n t:Nat} {vl:List Nat} {fr:FrO} {g:List Sl → Option Ox} {as:List Sl} {o:Option β} {dv:β → D} {outs st:β → List Sl}
theorem Q7x {δ δ':List Sl} {d:D} (h:unX g δ = some (.rt d δ')) (hd:Q1I d = false):g δ = some (.o (.rt d δ')):=by
 unfold unX at h
 obtain ⟨x,e,h⟩:=Qi.mp h
 rw [e]
 cases x with
 | ex c δ1=>cases h; cases hd
 | o o =>
  cases o with
  | nx δ1=>cases h
  | ct δ1=>cases h
  | rt d1 δ1 =>
   simp only at h
   split at h
   ·cases h
   ·cases h; rfl
theorem Q6H {δ δ':List Sl} {c:Str} (h:unX g δ = some (.rt (exD c) δ')):g δ = some (.ex c δ'):=by
 unfold unX at h
 obtain ⟨x,e,h⟩:=Qi.mp h
 rw [e]
 cases x with
 | ex c δ1=>cases h; rfl
 | o o =>
  cases o with
  | nx δ1=>cases h
  | ct δ1=>cases h
  | rt d1 δ1 =>
   simp only at h
   split at h
   ·cases h
   ·rename_i z; cases h; exact absurd rfl z
theorem Q7F {δ δ':List Sl} (h:unX g δ = some (.nx δ')):g δ = some (.o (.nx δ')):=by
 unfold unX at h
 obtain ⟨x,e,h⟩:=Qi.mp h
 rw [e]
 cases x with
 | ex c δ1=>cases h
 | o o =>
  cases o with
  | nx δ1=>cases h; rfl
  | ct δ1=>cases h
  | rt d1 δ1 =>
   simp only at h
   split at h <;> cases h
theorem Q6p {δ' out:List Sl} {d:D} (h:g (as ++ Zd sg.length t vl) = some (.o (.rt d δ'))) (hm:Q2l n as δ' = some out) (ha:okX sg n as = true):fnX sg n t vl fr g as = some (.ok d,out):=by
 unfold fnX
 rw [if_pos ha,h]
 show (Q2l n as δ').map _ = _
 rw [hm]
 rfl
theorem Qb9 {δ' out:List Sl} {c:Str} (h:g (as ++ Zd sg.length t vl) = some (.ex c δ')) (hm:Q2l n as δ' = some out) (ha:okX sg n as = true):fnX sg n t vl fr g as = some (.ex c,out):=by
 unfold fnX
 rw [if_pos ha,h]
 show (Q2l n as δ').map _ = _
 rw [hm]
 rfl
theorem fx_n (h:SB (Q2l n as) (unX g) (as ++ Zd sg.length t vl) o (fun v=>.rt (dv v) (outs v))) (hd:∀ v,Q1I (dv v) = false:=by intro _; rfl) (ha:okX sg n as = true:=by rfl):∀ v,o = some v → fnX sg n t vl fr g as = some (.ok (dv v),outs v):=fun v hv=>by
 obtain ⟨δ',h1,h2⟩:=h v hv
 exact Q6p (Q7x h1 (hd v)) h2 ha
variable {q:Option (ε ⊕ ρ)} {ce:ε → Str} {oute:ε → List Sl} {d:ρ → D} {out st2:ρ → List Sl}
theorem QaW (h:SB (Q2l n as) (unX g) (as ++ Zd sg.length t vl) q (Jm (fun e=>.rt (exD (ce e)) (oute e)) (fun v=>.rt (d v) (out v)))) (hd:∀ v,Q1I (d v) = false:=by intro _; rfl) (ha:okX sg n as = true:=by rfl):∀ v,q = some v → fnX sg n t vl fr g as = some (eX ce oute d out v):=fun v hv=>by
 have e:=h v hv
 cases v with
 | inl x =>
  obtain ⟨δ',h1,h2⟩:=e
  exact Qb9 (Q6H h1) h2 ha
 | inr y =>
  obtain ⟨δ',h1,h2⟩:=e
  exact Q6p (Q7x h1 (hd y)) h2 ha
end
end Z
namespace Z
open PySem PySem.Spec PyProof.Rows L2
abbrev Fa_:=List Sl → Option (Ra × List Sl)
section
variable {α β γ ε ρ ε':Type} {f:Fe} {G:List Sl → Bool} {δ δ1:List Sl} {d:D} {o:Option α} {re:α → D × List Sl}
def XP (f:Fa_) (δ:List Sl) (as:List Ar):Prop:=f δ = some (.as as,δ)
variable {fr:Fa_} {as:List Ar} {i:Nat} {c:Str} {fs:List (Str × Nat)} {rn:α → List Ar × List Sl}
theorem Q2q:XP (xAs Ve) δ []:=rfl
theorem Wj (h:VP f δ d) (h2:XP fr δ as):XP (Ka (xOk f) fr) δ (.d d :: as):=by
 unfold XP Ka xOk
 rw [show f δ = some (d,δ) from h]
 show (fr δ).map _ = _
 rw [show fr δ = some (.as as,δ) from h2]
 rfl
variable {fx:List Sl → Option (Rs × List Sl)} {q:Option (ε ⊕ ρ)} {ce:ε → Str} {δe:ε → List Sl} {dk:ρ → D} {δk:ρ → List Sl} {ak:ρ → List Ar}
variable {js:List Nat} {φ:List Sl → Option (Rs × List Sl)} {ce':ε' → Str} {oe:ε → List Sl} {dv:ρ → D} {outs:ρ → List Sl}
theorem Q1S {δ2 outs:List Sl} {r:Rs} (h:fr δ = some (.as as,δ2)) (hφ:φ (asX js as δ2) = some (r,outs)) (ok:(Zh js as δ2 && Q2r js as 0 δ2) = true) (ho:Wg js as δ2 outs = true):K5 js φ fr δ = some (r,Wl js as outs δ2):=by
 unfold K5
 rw [h]
 show (if Zh js as δ2 && Q2r js as 0 δ2 then _ else _) = _
 rw [if_pos ok,hφ]
 show (if Wg js as δ2 outs then _ else _) = _
 rw [if_pos ho]
theorem Q9A {dv:β → D} {outs:β → List Sl} {q:Option β} (h:XP fr δ as) (hφ:∀ v,q = some v → φ (asX js as δ) = some (.ok (dv v),outs v)) (ok:(Zh js as δ && Q2r js as 0 δ) = true:=by rfl) (ho:∀ v,Wg js as δ (outs v) = true:=by intro _; rfl):VN (okR (K5 js φ fr)) δ q (fun v=>(dv v,Wl js as (outs v) δ)):=fun v hv=>by
 unfold okR
 rw [Q1S h (hφ v hv) ok (ho v)]
 rfl
theorem Q3N (h:XP fr δ as) (hφ:∀ v,q = some v → φ (asX js as δ) = some (eX ce oe dv outs v)) (ok:(Zh js as δ && Q2r js as 0 δ) = true:=by rfl) (hoe:∀ e,Wg js as δ (oe e) = true:=by intro _; rfl) (ho:∀ v,Wg js as δ (outs v) = true:=by intro _; rfl):VX (K5 js φ fr) δ q (eX ce (fun e=>Wl js as (oe e) δ) dv (fun v=>Wl js as (outs v) δ)):=fun v hv=>by
 have e:=hφ v hv
 cases v with
 | inl x=>exact Q1S h e ok (hoe x)
 | inr y=>exact Q1S h e ok (ho y)
variable {am:List Sl → Option (List Sl)} {g':List Sl → Option Ox} {r:β → Oc}
end
end Z
namespace Z
open PySem PySem.Spec PyProof.Rows L2


end Z
namespace Z
open PySem PySem.Spec PyProof.Rows L2



section
variable {α β ε ρ σ τ:Type} {as:List Sl → Option (List Sl)} {δ:List Sl} {r:β → Oc} {g0:Fg} {gb g' gs0:List Sl → Option Ox} {o:Option β}
variable {ns:List Str} {dc:Str} {i:Nat} {qb:Option (ε ⊕ ρ)} {ce:ε → Str} {se:ε → List Sl} {sk:ρ → List Sl}
open Classical in
theorem Q8r {x:Option Out} {d:D} {outs:List Sl} (h:OcR some x (.rt d outs)):x = some (.rt d outs):=by
 obtain ⟨δ',h1,h2⟩:=h
 cases h2
 exact h1
open Classical in
theorem Q80 {gs:Str → Addr → List Sl → Option Ox} {os:ε → Option σ} {st:σ → List Sl} {ok:σ → Option β} {qs:Option (ε ⊕ σ)}
  (hb:SB some (unX gb) δ qs (Jm (fun e=>.rt (exD (ce e)) (se e)) (fun y=>.nx (st y))))
  (hs:∀ e a,SB some (unX (gs (ce e) a)) ((se e).set i (.xv a)) (os e) (fun v=>.nx ((st v).set i (.xv a))))
  (k:∀ s,SB as (unX g') (st s) (ok s) r)
  (hj:∀ v a,((st v).set i (.xv a)).set i .no = st v:=by intro _ _; rfl) (hi:∀ e,decide (i < (se e).length) = true:=by intro _; rfl) :
  SB as (unX (Jz (Za ns dc i gb gs) g')) δ ((qs.bind (Jm (fun e=>if ns.contains (ce e) && Xf (ce e) dc then os e else none) some)).bind ok) r:=fun v hv=>by
 obtain ⟨s,hs',hv⟩:=Xw hv
 obtain ⟨x,hx,hs'⟩:=Xw hs'
 have fin:Za ns dc i gb gs δ = some (.o (.nx (st s))):=by
  cases x with
  | inr y =>
   have e1:gb δ = some (.o (.nx (st y))):=Q7F (hb (.inr y) hx)
   have hs2:y = s:=Qs.inj hs'
   unfold Za
   rw [e1,hs2]
   rfl
  | inl e =>
   have e1:gb δ = some (.ex (ce e) (se e)):=Q6H (Q8r (hb (.inl e) hx))
   have hs':(if ns.contains (ce e) && Xf (ce e) dc then os e else none) = some s:=hs'
   split at hs'
   case isFalse=>cases hs'
   rename_i hc
   rw [Q4] at hc
   have all:∀ a,(gs (ce e) a ((se e).set i (.xv a))).map (wOx i) = some (.o (.nx (st s))):=fun a=>by
    have e2:gs (ce e) a ((se e).set i (.xv a)) = some (.o (.nx ((st s).set i (.xv a)))):=Q7F (hs e a s hs')
    rw [e2]
    show some (Ox.o (.nx (((st s).set i (.xv a)).set i .no))) = _
    rw [hj s a]
   have hex:∃ r,Q8F r = false ∧ ∀ a,(gs (ce e) a ((se e).set i (.xv a))).map (wOx i) = some r:=⟨_,rfl,all⟩
   unfold Za
   rw [e1,Q1]
   show (if ns.contains (ce e) then if Xf (ce e) dc then if i < (se e).length then if h:∃ r,Q8F r = false ∧ ∀ a,(gs (ce e) a ((se e).set i (.xv a))).map (wOx i) = some r then some h.choose else none else none else some (.ex (ce e) (se e)) else none) = _
   rw [if_pos hc.1,if_pos hc.2,if_pos (of_decide_eq_true (hi e)),dif_pos hex]
   have a0:Addr:=0
   exact ((hex.choose_spec.2 a0).symm.trans (all a0))
 have e:unX (Jz (Za ns dc i gb gs) g') δ = unX g' (st s):=by
  unfold unX Jz
  rw [fin]
  rfl
 rw [e]
 exact k s v hv
end

end Z
namespace Z
open PySem PySem.Spec PyProof.Rows L2

end Z
namespace Z
open PySem PySem.Spec PyProof.Rows L2

end Z
namespace Z
open PySem PySem.Spec PyProof.Rows L2

end Z
namespace Z
open PySem PySem.Spec PyProof.Rows L2
end Z
namespace Z
open PySem PySem.Spec PyProof.Rows L2

end Z
namespace Z
open PySem PySem.Spec PyProof.Rows L2

end Z
namespace Z
open PySem PySem.Spec PyProof.Rows L2
end Z
namespace Z
open PySem PySem.Spec PyProof.Rows L2

end Z
namespace Z
open PySem PySem.Spec PyProof.Rows L2
end Z
namespace Z
open PySem PySem.Spec PyProof.Rows L2
end Z
namespace Z
open PySem PySem.Spec PyProof.Rows L2
end Z
namespace Z
open PySem PySem.Spec PyProof.Rows L2

end Z
namespace Z
open PySem PySem.Spec PyProof.Rows L2
end Z
namespace Z
open PySem PySem.Spec PyProof.Rows L2

end Z
namespace Z
open PySem PySem.Spec PyProof.Rows L2

end Z
namespace Z
open PySem PySem.Spec PyProof.Rows L2
end Z
namespace Z
open PySem PySem.Spec PyProof.Rows L2
end Z
namespace Z
open PySem PySem.Spec PyProof.Rows L2

end Z
namespace Z
open PySem PySem.Spec PyProof.Rows L2



end Z
namespace Z
open PySem PySem.Spec PyProof.Rows L2
end Z
namespace Z
open PySem PySem.Spec PyProof.Rows L2
end Z
namespace Z
open PySem PySem.Spec PyProof.Rows L2
def Q57 (a:Str) (ys:List Str):Option Str:=if (ys.map (·.length)).sum + ys.length * a.length ≤ 16777216 then some (Txt.join a ys) else none
theorem Q39:∀ ys:List Str,(ys.map Q2).mapM Q87 = some ys
 | []=>rfl
 | y :: r=>by
  rw [Qq,List.mapM_cons,Q39 r]
  rfl
theorem Q9g (a:Str) (ys:List Str) (v:Str) (h:Q57 a ys = some v):Q5e (.str a) (eLi Q2 ys) = some (.str v):=by
 show (((ys.map Q2).mapM Q87).bind _) = _
 rw [Q39,Q1]
 unfold Q57 at h
 split at h
 ·rename_i c
  cases h
  exact if_pos c
 ·cases h
def Q2I (a b:Str):Option (List Str):=if (b.length == 0) = false ∧ a.length + 2 ≤ sizeLine then some (Txt.split a b) else none
theorem Q6R (a b:Str) (v:List Str) (h:Q2I a b = some v):Q6E (.str a) (.str b) = some (eLi Q2 v):=by
 unfold Q2I at h
 split at h
 ·rename_i c
  cases h
  exact if_pos c
 ·cases h
def Q4q (a:Str):Option Int:=if a.length ≤ 640 then PySem.intText? a else none
theorem Q8v (a:Str) (v:Int) (h:Q4q a = some v):g1 Q5h [.str a] = some (.int v):=by
 unfold Q4q at h
 split at h
 ·rename_i c
  show (if a.length ≤ 640 then (PySem.intText? a).map Q0 else none) = _
  rw [if_pos c,h]
  rfl
 ·cases h
def Qaw {α:Type} (xs:List α):Option (α × α):=match xs with
 | [a,b]=>some (a,b)
 | _=>none
theorem Q7B {α' τ' ε':Type} {T:Tt} {f:Fe} {δ:List Sl} {g':List Sl → Option Out} {oe:Option α'} {re:α' → D × List Sl} {ee:τ' → D} {xs:α' → List τ'} {δx:α' → τ' × τ' → List Sl} {ok:α' → τ' × τ' → Option ε'} {as} {r} (h:VN f δ oe re) (hr:∀ x,(re x).1 = eLi ee (xs x)) (hb:∀ x t,Xj T [ee t.1,ee t.2] (re x).2 = some (δx x t)) (k:∀ x t,SB as g' (δx x t) (ok x t) r):SB as (Xb (Q1A T f) g') δ (oe.bind fun x=>(Qaw (xs x)).bind fun t=>ok x t) r:=fun v hv=>by
 obtain ⟨x,hx,hv⟩:=Xw hv
 obtain ⟨t,ht,hv⟩:=Xw hv
 rw [Kr (δ1:=δx x t)]
 ·exact k x t v hv
 ·unfold Q1A
  have e1:=hr x
  have hb':=hb x t
  rw [h x hx,Q1]
  generalize re x = w at e1 hb'
  obtain ⟨d,δ1⟩:=w
  dsimp only at e1 hb' ⊢
  subst e1
  unfold Qaw at ht
  split at ht
  ·rename_i a b e2
   cases ht
   rw [e2]
   show (Xj T [ee a,ee b] δ1).map Out.nx = _
   rw [hb']
   rfl
  ·cases ht
end Z
namespace Z
open PySem PySem.Spec PyProof.Rows L2

end Z
namespace Z
open PySem PySem.Spec PyProof.Rows L2
def Q3E {ι ε τ:Type} (f:ι → Option (ε ⊕ τ)):List ι → Option (ε ⊕ List τ)
 | []=>some (.inr [])
 | x :: r=>(f x).bind (Jm (fun e=>some (.inl e)) fun y=>(Q3E f r).map (Sum.map (fun e=>e) fun ys=>y :: ys))
section
variable {ι ε τ ρ α:Type} {T:Tt} {vs:List Nat} {fe:List Sl → Option (Rs × List Sl)} {fi:Fs} {δ:List Sl} {q:ι → Option (ε ⊕ τ)} {ce:ε → Str} {e:ι → D} {e':τ → D} {δb:ι → List Sl} {xs:List ι}
def rlX (ce:ε → Str) (e':τ → D):ε ⊕ List τ → Rl:=Jm (fun e=>.ex (ce e)) fun ys=>.ok (ys.map e')
theorem Q4r (hT:∀ x,Xp T (e x) δ = some (δb x)) (hf:∀ x,VX fe (δb x) (q x) (eX ce (fun _=>δb x) e' (fun _=>δb x))) (hw:∀ x,Xg vs (δb x) = δ):∀ (xs:List ι) (z:ε ⊕ List τ),Q3E q xs = some z → Wf T vs Kq fe (xs.map e) δ = some (rlX ce e' z,δ)
 | [],z,h=>by cases h; rfl
 | x :: xs,z,h=>by
  unfold Q3E at h
  obtain ⟨y,hy,h⟩:=Xw h
  rw [Qq]
  unfold Wf
  rw [hT x,Q1]
  show (fe (δb x)).bind _ = _
  rw [hf x y hy]
  cases y with
  | inl c =>
   cases h
   show some (Rl.ex (ce c),Xg vs (δb x)) = _
   rw [hw x]
   rfl
  | inr y =>
   obtain ⟨w,h2,rfl⟩:=W0 h
   have ih:=Q4r hT hf hw xs w h2
   show (Wf T vs Kq fe (xs.map e) (Xg vs (δb x))).map _ = _
   rw [hw x,ih]
   cases w <;> rfl
theorem Q76 (hi:AP fi δ (xs.map e)) (hT:∀ x,Xp T (e x) δ = some (δb x)) (hf:∀ x,VX fe (δb x) (q x) (eX ce (fun _=>δb x) e' (fun _=>δb x))) (hw:∀ x,Xg vs (δb x) = δ:=by intro _; rfl) (hn:noS vs δ = true:=by rfl) :
  VX (Q0F T vs fi Kq fe) δ (Kt xs (Q3E q xs)) (eX ce (fun _=>δ) (fun ys=>eLi e' ys) (fun _=>δ)):=fun z hz=>by
 unfold Kt at hz
 split at hz
 ·rename_i c
  have w:=Q4r hT hf hw xs z hz
  unfold Q0F
  rw [show fi δ = some (xs.map e,δ) from hi,Q1]
  dsimp only
  rw [hn,decide_eq_true (by rw [Q3]; exact c),Bool.and_self,if_pos rfl,w]
  cases z <;> rfl
 ·cases hz
theorem Q79 {r:α → List D × List Sl} {o:Option α} {q':α → Option (Str ⊕ List τ)} (hi:AN fi δ o r) (h:∀ x,VX (Q0F T vs (fun δ=>some ((r x).1,δ)) Kq fe) (r x).2 (q' x) (eX (fun c=>c) (fun _=>(r x).2) (fun ys=>eLi e' ys) (fun _=>(r x).2))) :
  VX (Q0F T vs fi Kq fe) δ (o.bind fun x=>(q' x).map (Sum.map (fun e=>(x,e)) (fun y=>(x,y)))) (eX (fun p=>p.2) (fun p=>(r p.1).2) (fun p=>eLi e' p.2) (fun p=>(r p.1).2)):=fun p hp=>by
 obtain ⟨x,hx,hp⟩:=Xw hp
 obtain ⟨v,hv,rfl⟩:=W0 hp
 have w:=h x v hv
 unfold Q0F at w ⊢
 rw [hi x hx,Q1]
 rw [Q1] at w
 refine Eq.trans w ?_
 cases v <;> rfl
theorem Qa7 {f:List Sl → Option (Rs × List Sl)} {q:Option (ε ⊕ ρ)} {δe:ε → List Sl} {d:ρ → D} {δk:ρ → List Sl} {δ0:List Sl} (h:VX f δ q (eX ce δe d δk)) (u:ρ → τ) (hd:∀ y,d y = e' (u y):=by intro _; rfl) (h1:∀ c,δe c = δ0:=by intro _; rfl) (h2:∀ y,δk y = δ0:=by intro _; rfl) :
  VX f δ (q.map (Sum.map ce u)) (eX (fun c=>c) (fun _=>δ0) e' (fun _=>δ0)):=fun z hz=>by
 obtain ⟨v,hv,rfl⟩:=W0 hz
 rw [h v hv]
 cases v with
 | inl c=>show some (Rs.ex (ce c),δe c) = _; rw [h1 c]; rfl
 | inr y=>show some (Rs.ok (d y),δk y) = _; rw [hd y,h2 y]; rfl
theorem Qan {f:List Sl → Option (Rs × List Sl)} {q:Option (ε ⊕ τ)} {δe:ε → List Sl} {d:τ → D} {δk:τ → List Sl} {δ0:List Sl} (h:VX f δ q (eX ce δe d δk)) (hd:∀ y,d y = e' y:=by intro _; rfl) (h1:∀ c,δe c = δ0:=by intro _; rfl) (h2:∀ y,δk y = δ0:=by intro _; rfl) :
  VX f δ q (eX ce (fun _=>δ0) e' (fun _=>δ0)):=fun z hz=>by
 rw [h z hz]
 cases z with
 | inl c=>show some (Rs.ex (ce c),δe c) = _; rw [h1 c]; rfl
 | inr y=>show some (Rs.ok (d y),δk y) = _; rw [hd y,h2 y]; rfl
end
theorem Xt {β:Type} {as:List Sl → Option (List Sl)} {r:β → Oc} {c:Str} {f:Fe} {d:D} {g':List Sl → Option Ox} {δ:List Sl} {v:β} {outs:List Sl} (h:VP f δ d) (hr:r v = .rt (exD c) outs) (hm:as δ = some outs:=by rfl):SB as (unX (Jz (Y2 c f) g')) δ (some v) r:=fun w hw=>by
 cases hw
 rw [hr]
 refine ⟨δ,?_,hm⟩
 unfold unX Jz Y2
 rw [show f δ = some (d,δ) from h]
 rfl
theorem Q8q {T:Tt} {f:Fe}:Q26 (Q1A T f):=fun δ d δ' h=>by
 unfold Q1A at h
 obtain ⟨p,_,h⟩:=Qi.mp h
 split at h
 ·obtain ⟨q,_,h⟩:=Qa.mp h
  cases h
 ·cases h
end Z
namespace Z
open PySem PySem.Spec PyProof.Rows L2
def Wt {α:Type} (o:Option α) (P:α → Prop):Prop:=∃ a,o = some a ∧ P a
variable {α β γ σ ι τ ρ:Type}
theorem Wt.mon {o:Option α} {P Q:α → Prop} (h:Wt o P) (q:∀ a,P a → Q a):Wt o Q:=by
 obtain ⟨a,e,p⟩:=h
 exact ⟨a,e,q a p⟩
theorem Kj {a:α} {P:α → Prop} (h:P a):Wt (some a) P:=⟨a,rfl,h⟩
theorem V9 {o:Option α} {k:α → Option β} {P:β → Prop} (h:Wt o fun a=>Wt (k a) P):Wt (o.bind k) P:=by
 obtain ⟨a,rfl,b,e,p⟩:=h
 exact ⟨b,e,p⟩
theorem Ky {o:Option α} {k:α → β} {P:β → Prop} (h:Wt o fun a=>P (k a)):Wt (o.map k) P:=by
 obtain ⟨a,rfl,p⟩:=h
 exact ⟨_,rfl,p⟩
theorem Q5d {k:Dk} {M:Int} {P:Int × Dk → Prop} (hc:k.cs.length ≤ 63) (hM:0 < M) (hM2:M < 2 ^ 30) (h:∀ r k',0 ≤ r → r < M → k'.cs.length ≤ 63 → P (r,k')):Wt (Q1K k M) P:=by
 obtain ⟨r,k',e,h1,h2,h3⟩:=Q7y k M hM hM2 hc
 exact ⟨_,e,h r k' h1 h2 h3⟩
theorem Q4m (xs:List α) (i:Int) (h0:0 ≤ i) (h1:i < xs.length):∃ h:i.toNat < xs.length,atI xs i = some (xs[i.toNat]'h):=by
 refine ⟨by omega,?_⟩
 unfold atI ixN
 rw [if_pos h0,if_pos h1]
 exact Q6 _
theorem Qbo {xs:List α} {i:Int} {P:α → Prop} (h0:0 ≤ i) (h1:i < xs.length) (h:∀ x ∈ xs,P x):Wt (atI xs i) P:=by
 obtain ⟨c,e⟩:=Q4m xs i h0 h1
 exact ⟨_,e,h _ (List.getElem_mem _)⟩
theorem Q6M:1000000 ≤ sizeLine:=Q7z
theorem Q99 {xs:List ι} {o:Option τ} {P:τ → Prop} (h0:xs.length ≤ 1000000) (h:Wt o P):Wt (Kt xs o) P:=by
 unfold Kt
 rw [if_pos (Jq h0 Q6M)]
 exact h
theorem Q8Z {j:Int} {P:List Int → Prop} (h0:-1000000 ≤ j) (h1:j ≤ 1000000) (h:P (Q1h 0 j.toNat)):Wt (Q9h j) P:=⟨_,if_pos (Q50 h0 h1),h⟩
theorem Q3x {step:ι → σ → Option (σ ⊕ ρ)} (I:σ → Prop) {P:σ ⊕ ρ → Prop}:∀ {xs:List ι} {s:σ},I s → (∀ x ∈ xs,∀ s,I s → Wt (step x s) fun w=>∃ s',w = .inl s' ∧ I s') → (∀ s,I s → P (.inl s)) → Wt (Q4v step xs s) P
 | [],s,h,_,q=>⟨_,rfl,q s h⟩
 | x :: xs,s,h,st,q=>by
  unfold Q4v
  refine V9 ((st x (Qe ..) s h).mon fun w hw=>?_)
  obtain ⟨s',rfl,h'⟩:=hw
  exact Q3x I h' (fun y hy=>st y (Qb _ hy)) q
theorem Q8U {f:ι → Option τ} {P:List τ → Prop} {xs:List ι} (g:ι → τ) (hf:∀ x ∈ xs,f x = some (g x)) (h:P (xs.map g)):Wt (mapM f xs) P:=by
 have:∀ ys:List ι,(∀ x ∈ ys,f x = some (g x)) → mapM f ys = some (ys.map g):=by
  intro ys
  induction ys with
  | nil=>intro _; rfl
  | cons y ys ih =>
   intro hy
   unfold mapM
   rw [hy y (Qe ..),Q1,ih fun x hx=>hy x (Qb _ hx)]
   rfl
 exact ⟨_,this xs hf,h⟩
theorem Q53 {f:ι → σ → Option (τ × σ)} {P:List τ × σ → Prop} (Q:τ → Prop) (I:List ι → σ → Prop):∀ {xs:List ι} {s:σ},I xs s → (∀ x xs s,I (x :: xs) s → Wt (f x s) fun p=>Q p.1 ∧ I xs p.2) → (∀ ys s,ys.length = xs.length → (∀ y ∈ ys,Q y) → I [] s → P (ys,s)) → Wt (Q4G f xs s) P
 | [],s,h,_,q=>⟨_,rfl,q [] s rfl (fun _ h=>nomatch h) h⟩
 | x :: xs,s,h,st,q=>by
  unfold Q4G
  refine V9 ((st x xs s h).mon fun p hp=>Ky (Q53 Q I hp.2 st fun ys s' e a i=>?_))
  refine q _ _ (by simp [e]) (fun y hy=>?_) i
  rcases Ql.mp hy with rfl | hy
  ·exact hp.1
  ·exact a y hy
theorem Q7N {lo:Int} {n:Nat} {x:Int} (h:x ∈ Q1h lo n):lo ≤ x ∧ x < lo + n:=by
 unfold Q1h at h
 obtain ⟨i,hi,rfl⟩:=Jx.mp h
 rw [List.mem_range] at hi
 omega
theorem Q3W (lo:Int) (n:Nat):(Q1h lo n).length = n:=by simp [Q1h]
theorem Qab {xs:List α} {b:Int} (h:0 ≤ b):Kd xs none (some b) = xs.take b.toNat:=by
 obtain ⟨n,rfl⟩:=Int.eq_ofNat_of_zero_le h
 unfold Kd
 rw [HT.sIx_nat,HT.sIx_none,List.drop_zero]
 simp [List.take_eq_take_iff]
structure Sh (w k:Nat) (d:D):Prop where
 s:d.showable = true
 n:d.hasDict = false
 l:d.leavesShort 13 = true
 dp:d.depth ≤ k
 wt:d.weight ≤ w
end Z
namespace Z
open PySem PySem.Spec PyProof.Rows L2
structure ShB (w k:Nat) (d:D):Prop where
 s:d.showable = true
 n:d.hasDict = false
 l:d.leavesShort 600 = true
 dp:d.depth ≤ k
 wt:d.weight ≤ w
end Z
namespace K06
open PySem PySem.Spec PyProof.Rows L2 Z
def top (i:Nat):Stmt:=PySem.Challenge.pw_soundstore_k06_refusals_made.main.body.getD i (.Pass ⟨0,0,0,0⟩)
abbrev exN:List Str:=["StoreError", "NoText", "Unsound", "NoPath", "NoWorths", "NoName", "Ring", "Taken", "NotEmpty", "Full", "NoPlace", "NoBack", "NoRow"]
structure Txt (K:PySem.W.Frag) (mg:Str → Option Value):Prop where
 c_BLOCK_CELLS:GC K mg "BLOCK_CELLS" (.int 4)
 c_FIGURES:GC K mg "FIGURES" (.str "0123456789")
 c_HEAD_CELLS:GC K mg "HEAD_CELLS" (.int 7)
 c_LEAST_BLOCKS:GC K mg "LEAST_BLOCKS" (.int 3)
 c_LEAST_HEADS:GC K mg "LEAST_HEADS" (.int 2)
 c_LOG_CELLS:GC K mg "LOG_CELLS" (.int 82)
 c_MOST_BLOCKS:GC K mg "MOST_BLOCKS" (.int 12)
 c_MOST_FIGURES:GC K mg "MOST_FIGURES" (.int 40)
 c_MOST_HEADS:GC K mg "MOST_HEADS" (.int 8)
 m_ValueError:mg "ValueError" = none
 m_all:mg "all" = none
 m_bool:mg "bool" = none
 m_int:mg "int" = none
 m_isinstance:mg "isinstance" = none
 m_len:mg "len" = none
 m_list:mg "list" = none
 m_range:mg "range" = none
 m_reversed:mg "reversed" = none
 m_str:mg "str" = none
 m_sum:mg "sum" = none
 m_tuple:mg "tuple" = none
 m_zip:mg "zip" = none
 ex:Q3h K mg exN
section
variable {P:Program} {w:World} {K:PySem.W.Frag} {mg:Str → Option Value} {base:Heap}
abbrev Zt:Stmt:=top 23
theorem Q0V:FnScope ["thing"] ["thing"] (defScope Zt):=⟨rfl,rfl,rfl,by decide +kernel,rfl,by decide +kernel,by decide +kernel⟩
def Q3Q:List Sl → Option Out:=Xb (Ym (Q5O (f1 (Q61 "int") (X2 0)) (Q74 (f1 (Q61 "bool") (X2 0))))) (Xe)
def Yg:List Sl → Option (D × List Sl):=fnF [false] 1 .n Q3Q
theorem Q3s (T:Txt K mg)  {f:Addr} {fd:FuncData} (Fu:Fun K "is_number" "is_number" Zt f fd) (m:mg "is_number" = some (.ref f)):GK P w K mg base "is_number" 1 1 .n Yg:=by
 refine ⟨f,fd,["thing"],Zf Fu Q0V rfl (fun cd A out s G E hG hr=>?_),rfl,m,Fu.kp,Fu.binds fun _ _ _ _ _ _ us hl=>match us,hl with | [_],_=>rfl⟩
 have S:=Q0V; have h1:=hu1 hr; have h65:=Q08 hr; have h66:=Q0t hr; have h67:=Q0s hr
 exact Xc (Ya (Q7D (Q2m (T := "int") rfl (bnk T.m_isinstance) (bnk T.m_int) (X6 0)) (Q58 (Qac (Q2m (T := "bool") rfl (bnk T.m_isinstance) (bnk T.m_bool) (X6 0)))))) (Xu)
abbrev Q0o:Stmt:=top 24
theorem Q1D:FnScope ["heads", "blocks"] ["heads", "blocks"] (defScope Q0o):=⟨rfl,rfl,rfl,by decide +kernel,rfl,by decide +kernel,by decide +kernel⟩
def Q4R:List Sl → Option Out:=Xb (sIf (gOr (Q06 (fun δ=>toB (Y6 [] true Yg (Xn (X2 0) (Ve)) δ))) (Q06 (fun δ=>toB (Y6 [] true Yg (Xn (X2 1) (Ve)) δ)))) (Xb (Ym (X5 (.bool false))) (Xe)) (Xe)) (Xb (Ym (Q5O (We (bD leD) (bD leD) (X5 (.int 2)) (X2 0) (X5 (.int 8))) (We (bD leD) (bD leD) (X5 (.int 3)) (X2 1) (X5 (.int 12))))) (Xe))
def V6:List Sl → Option (D × List Sl):=fnF [false,false] 2 .n Q4R
theorem Q3X (T:Txt K mg) (k_is_number:GK P w K mg base "is_number" 1 1 .n Yg) {f:Addr} {fd:FuncData} (Fu:Fun K "is_shape" "is_shape" Q0o f fd) (m:mg "is_shape" = some (.ref f)):GK P w K mg base "is_shape" 2 2 .n V6:=by
 refine ⟨f,fd,["heads", "blocks"],Zf Fu Q1D rfl (fun cd A out s G E hG hr=>?_),rfl,m,Fu.kp,Fu.binds fun _ _ _ _ _ _ us hl=>match us,hl with | [_,_],_=>rfl⟩
 have S:=Q1D; have h1:=hu1 hr; have h65:=Q08 hr; have h66:=Q0t hr; have h67:=Q0s hr
 exact Xc (Q24 (WV.tv (Q1W (Ww (K1 (Vx (k_is_number.kn hr hG) (Xi (X6 0) (Yj))))) (Q29 (Ww (K1 (Vx (k_is_number.kn hr hG) (Xi (X6 1) (Yj)))))))) (Xc (Ya (Q12)) (Xu)) (Xu)) (Xc (Ya (Q7D (Q4n Q36.op Xh Q36.op Xh (Q2d T.c_LEAST_HEADS) (X6 0) (Q2d T.c_MOST_HEADS)) (Q58 (Q4n Q36.op Xh Q36.op Xh (Q2d T.c_LEAST_BLOCKS) (X6 1) (Q2d T.c_MOST_BLOCKS))))) (Xu))
abbrev Km:Stmt:=top 25
theorem Q0d:FnScope ["heads", "blocks"] ["heads", "blocks"] (defScope Km):=⟨rfl,rfl,rfl,by decide +kernel,rfl,by decide +kernel,by decide +kernel⟩
def Q3O:List Sl → Option Out:=Xb (Ym (f2 V7 (f2 V7 (f2 Yx (X5 (.int 7)) (X2 0)) (f2 Yx (f2 V7 (X5 (.int 1)) (X5 (.int 4))) (X2 1))) (X5 (.int 82)))) (Xe)
def Yh:List Sl → Option (D × List Sl):=fnF [false,false] 2 .n Q3O
theorem Q2K (T:Txt K mg)  {f:Addr} {fd:FuncData} (Fu:Fun K "many_cells" "many_cells" Km f fd) (m:mg "many_cells" = some (.ref f)):GK P w K mg base "many_cells" 1 2 .n Yh:=by
 refine ⟨f,fd,["heads", "blocks"],Zf Fu Q0d rfl (fun cd A out s G E hG hr=>?_),rfl,m,Fu.kp,Fu.binds fun _ _ _ _ _ _ us hl=>match us,hl with | [_,_],_=>rfl⟩
 have S:=Q0d; have h1:=hu1 hr; have h65:=Q08 hr; have h66:=Q0t hr; have h67:=Q0s hr
 exact Xc (Ya (Xl Y0 Y1 (Xl Y0 Y1 (Xl Vb Vc (Q2d T.c_HEAD_CELLS) (X6 0)) (Xl Vb Vc (Xl Y0 Y1 (X3) (Q2d T.c_BLOCK_CELLS)) (X6 1))) (Q2d T.c_LOG_CELLS))) (Xu)
abbrev Kh:Stmt:=top 26
theorem Q1s:FnScope ["thing", "cells", "cell"] ["thing"] (defScope Kh):=⟨rfl,rfl,rfl,by decide +kernel,rfl,by decide +kernel,by decide +kernel⟩
def Q4Q:List Sl → Option Out:=Xb (sIf (gOr (Q06 (fun δ=>toB ((f1 (Q61 "tuple") (X2 0)) δ))) (gOr (fun δ=>toB (f2 (bD neD) (fA (g1 Q05) (X7 (X2 0) (Y3))) (X5 (.int 3)) δ)) (Q06 (fun δ=>toB (Y6 [] true V6 (Xn (f2 Vi (X2 0) (X5 (.int 0))) (Xn (f2 Vi (X2 0) (X5 (.int 1))) (Ve))) δ))))) (Xb (Ym (X5 (.bool false))) (Xe)) (Xe)) (Xb (Yv 1 (f2 Vi (X2 0) (X5 (.int 2)))) (Xb (sIf (gOr (Q06 (fun δ=>toB ((f1 (Q61 "tuple") (X2 1)) δ))) (fun δ=>toB (f2 (bD neD) (fA (g1 Q05) (X7 (X2 1) (Y3))) (Y6 [] true Yh (Xn (f2 Vi (X2 0) (X5 (.int 0))) (Xn (f2 Vi (X2 0) (X5 (.int 1))) (Ve)))) δ))) (Xb (Ym (X5 (.bool false))) (Xe)) (Xe)) (Xb (Ym (fA (g1 Q6P) (X7 (fLc (.nm 2) [2] (fIt (X2 1)) (Kq) (Y6 [] true Yg (Xn (X2 2) (Ve)))) (Y3)))) (Xe))))
def Wp:List Sl → Option (D × List Sl):=fnF [false] 3 .n Q4Q
theorem Q4i (T:Txt K mg) (k_is_number:GK P w K mg base "is_number" 1 1 .n Yg) (k_is_shape:GK P w K mg base "is_shape" 2 2 .n V6) (k_many_cells:GK P w K mg base "many_cells" 1 2 .n Yh) {f:Addr} {fd:FuncData} (Fu:Fun K "is_store" "is_store" Kh f fd) (m:mg "is_store" = some (.ref f)):GK P w K mg base "is_store" 3 1 .n Wp:=by
 refine ⟨f,fd,["thing"],Zf Fu Q1s rfl (fun cd A out s G E hG hr=>?_),rfl,m,Fu.kp,Fu.binds fun _ _ _ _ _ _ us hl=>match us,hl with | [_],_=>rfl⟩
 have S:=Q1s; have h1:=hu1 hr; have h65:=Q08 hr; have h66:=Q0t hr; have h67:=Q0s hr
 exact Xc (Q24 (WV.tv (Q1W (Ww (K1 (Q2m (T := "tuple") rfl (bnk T.m_isinstance) (bnk T.m_tuple) (X6 0)))) (Q1W (Xv (Q1B h65).op Xh (Yp (bnk T.m_len) Kv Z8 (X4 (X6 0) (Xk))) (X3)) (Q29 (Ww (K1 (Vx (k_is_shape.kn hr hG) (Xi (Yi h1 (X6 0) (X3)) (Xi (Yi h1 (X6 0) (X3)) (Yj)))))))))) (Xc (Ya (Q12)) (Xu)) (Xu)) (Xc (V3 rfl (tgk 1 S.nd) (Yi h1 (X6 0) (X3))) (Xc (Q24 (WV.tv (Q1W (Ww (K1 (Q2m (T := "tuple") rfl (bnk T.m_isinstance) (bnk T.m_tuple) (X6 1)))) (Q29 (Xv (Q1B h65).op Xh (Yp (bnk T.m_len) Kv Z8 (X4 (X6 1) (Xk))) (Vx (k_many_cells.kn hr hG) (Xi (Yi h1 (X6 0) (X3)) (Xi (Yi h1 (X6 0) (X3)) (Yj)))))))) (Xc (Ya (Q12)) (Xu)) (Xu)) (Xc (Ya (Yp (bnk T.m_all) (cr_all rfl) Q85 (X4 (NV.ev (Q55 (own:=[("cell",2)]) rfl S.nd (Q1e (X6 1)) (Z1 (N:=["thing", "cells", "cell"]) (sc:=defScope Kh) (by decide +kernel)) (fun _ _ _ _ _=>Yq (tgk 2 S.nd)) (fun _ _ _ _ _=>Kl) (fun _ _ _ _ _=>Vx (k_is_number.kn hr hG) (Xi (X6 2) (Yj))))) (Xk)))) (Xu))))
abbrev Zp:Stmt:=top 28
theorem Q0X:FnScope ["heads"] ["heads"] (defScope Zp):=⟨rfl,rfl,rfl,by decide +kernel,rfl,by decide +kernel,by decide +kernel⟩
def Q4b:List Sl → Option Out:=Xb (Ym (f2 Yx (X5 (.int 7)) (X2 0))) (Xe)
def Yw:List Sl → Option (D × List Sl):=fnF [false] 1 .n Q4b
theorem Q3P (T:Txt K mg)  {f:Addr} {fd:FuncData} (Fu:Fun K "map_first" "map_first" Zp f fd) (m:mg "map_first" = some (.ref f)):GK P w K mg base "map_first" 1 1 .n Yw:=by
 refine ⟨f,fd,["heads"],Zf Fu Q0X rfl (fun cd A out s G E hG hr=>?_),rfl,m,Fu.kp,Fu.binds fun _ _ _ _ _ _ us hl=>match us,hl with | [_],_=>rfl⟩
 have S:=Q0X; have h1:=hu1 hr; have h65:=Q08 hr; have h66:=Q0t hr; have h67:=Q0s hr
 exact Xc (Ya (Xl Vb Vc (Q2d T.c_HEAD_CELLS) (X6 0))) (Xu)
abbrev Wv:Stmt:=top 29
theorem Zu:FnScope ["heads", "blocks"] ["heads", "blocks"] (defScope Wv):=⟨rfl,rfl,rfl,by decide +kernel,rfl,by decide +kernel,by decide +kernel⟩
def Q2D:List Sl → Option Out:=Xb (Ym (f2 V7 (Y6 [] true Yw (Xn (X2 0) (Ve))) (X2 1))) (Xe)
def Y4:List Sl → Option (D × List Sl):=fnF [false,false] 2 .n Q2D
theorem Q1Z (T:Txt K mg) (k_map_first:GK P w K mg base "map_first" 1 1 .n Yw) {f:Addr} {fd:FuncData} (Fu:Fun K "block_first" "block_first" Wv f fd) (m:mg "block_first" = some (.ref f)):GK P w K mg base "block_first" 2 2 .n Y4:=by
 refine ⟨f,fd,["heads", "blocks"],Zf Fu Zu rfl (fun cd A out s G E hG hr=>?_),rfl,m,Fu.kp,Fu.binds fun _ _ _ _ _ _ us hl=>match us,hl with | [_,_],_=>rfl⟩
 have S:=Zu; have h1:=hu1 hr; have h65:=Q08 hr; have h66:=Q0t hr; have h67:=Q0s hr
 exact Xc (Ya (Xl Y0 Y1 (Vx (k_map_first.kn hr hG) (Xi (X6 0) (Yj))) (X6 1))) (Xu)
abbrev Zq:Stmt:=top 30
theorem Q0L:FnScope ["heads", "blocks"] ["heads", "blocks"] (defScope Zq):=⟨rfl,rfl,rfl,by decide +kernel,rfl,by decide +kernel,by decide +kernel⟩
def Q4h:List Sl → Option Out:=Xb (Ym (f2 V7 (Y6 [] true Y4 (Xn (X2 0) (Xn (X2 1) (Ve)))) (f2 Yx (X5 (.int 4)) (X2 1)))) (Xe)
def Wb:List Sl → Option (D × List Sl):=fnF [false,false] 2 .n Q4h
theorem Q3M (T:Txt K mg) (k_block_first:GK P w K mg base "block_first" 2 2 .n Y4) {f:Addr} {fd:FuncData} (Fu:Fun K "log_first" "log_first" Zq f fd) (m:mg "log_first" = some (.ref f)):GK P w K mg base "log_first" 3 2 .n Wb:=by
 refine ⟨f,fd,["heads", "blocks"],Zf Fu Q0L rfl (fun cd A out s G E hG hr=>?_),rfl,m,Fu.kp,Fu.binds fun _ _ _ _ _ _ us hl=>match us,hl with | [_,_],_=>rfl⟩
 have S:=Q0L; have h1:=hu1 hr; have h65:=Q08 hr; have h66:=Q0t hr; have h67:=Q0s hr
 exact Xc (Ya (Xl Y0 Y1 (Vx (k_block_first.kn hr hG) (Xi (X6 0) (Xi (X6 1) (Yj)))) (Xl Vb Vc (Q2d T.c_BLOCK_CELLS) (X6 1)))) (Xu)
abbrev Q0n:Stmt:=top 34
theorem Q1v:FnScope ["heads", "blocks", "ends"] ["heads", "blocks"] (defScope Q0n):=⟨rfl,rfl,rfl,by decide +kernel,rfl,by decide +kernel,by decide +kernel⟩
def Q4E:List Sl → Option Out:=Xb (Yv 2 (Q1q (X7 (X5 (.int 0)) (X7 (Y6 [] true Yw (Xn (X2 0) (Ve))) (X7 (Y6 [] true Y4 (Xn (X2 0) (Xn (X2 1) (Ve)))) (X7 (Y6 [] true Wb (Xn (X2 0) (Xn (X2 1) (Ve)))) (X7 (Y6 [] true Yh (Xn (X2 0) (Xn (X2 1) (Ve)))) (Y3)))))))) (Xb (Ym (fA Q52 (X7 (f3 Q3l (X2 2) (Q2i) (Q0S (f1 QaY (X5 (.int 1))))) (X7 (f3 Q3l (X2 2) (Q0S (X5 (.int 1))) (Q2i)) (Y3))))) (Xe))
def Wn:List Sl → Option (D × List Sl):=fnF [false,false] 3 .l Q4E
theorem Q4u (T:Txt K mg) (k_block_first:GK P w K mg base "block_first" 2 2 .n Y4) (k_log_first:GK P w K mg base "log_first" 3 2 .n Wb) (k_many_cells:GK P w K mg base "many_cells" 1 2 .n Yh) (k_map_first:GK P w K mg base "map_first" 1 1 .n Yw) {f:Addr} {fd:FuncData} (Fu:Fun K "lines_of" "lines_of" Q0n f fd) (m:mg "lines_of" = some (.ref f)):GK P w K mg base "lines_of" 4 2 .l Wn:=by
 refine ⟨f,fd,["heads", "blocks"],Zf Fu Q1v rfl (fun cd A out s G E hG hr=>?_),rfl,m,Fu.kp,Fu.binds fun _ _ _ _ _ _ us hl=>match us,hl with | [_,_],_=>rfl⟩
 have S:=Q1v; have h1:=hu1 hr; have h65:=Q08 hr; have h66:=Q0t hr; have h67:=Q0s hr
 exact Xc (V3 rfl (tgk 2 S.nd) (NV.ev (Q0z (X4 (X3) (X4 (Vx (k_map_first.kn hr hG) (Xi (X6 0) (Yj))) (X4 (Vx (k_block_first.kn hr hG) (Xi (X6 0) (Xi (X6 1) (Yj)))) (X4 (Vx (k_log_first.kn hr hG) (Xi (X6 0) (Xi (X6 1) (Yj)))) (X4 (Vx (k_many_cells.kn hr hG) (Xi (X6 0) (Xi (X6 1) (Yj)))) (Xk))))))))) (Xc (Q8H (Q5T rfl (by exact ⟨rfl,T.m_list⟩) (by exact ⟨rfl,T.m_zip⟩) (X4 (Zr (X6 2) (Q0P) (Q0K (Qaa (X3)))) (X4 (Zr (X6 2) (Q0K (X3)) (Q0P)) (Xk))))) (Xu))
abbrev Wm:Stmt:=top 35
theorem Q0W:FnScope ["word", "figures", "sign"] ["word"] (defScope Wm):=⟨rfl,rfl,rfl,by decide +kernel,rfl,by decide +kernel,by decide +kernel⟩
def Q1C:List Sl → Option Ox:=Jz (xS (Yv 1 (X2 0))) (Jz (xS (sIf (fun δ=>toB (f2 (bD eqD) (f3 Q3l (X2 0) (Q2i) (Q0S (X5 (.int 1)))) (X5 (.str "-")) δ)) (Xb (Yv 1 (f3 Q3l (X2 0) (Q0S (X5 (.int 1))) (Q2i))) (Xe)) (Xe))) (Jz (Vo (gOr (Q06 (fun δ=>toB (We (bD leD) (bD leD) (X5 (.int 1)) (fA (g1 Q05) (X7 (X2 1) (Y3))) (X5 (.int 40)) δ))) (Q06 (fun δ=>toB ((fA (g1 Q6P) (X7 (fLc (.nm 2) [2] (fIt (X2 1)) (Kq) (f2 (bD inD) (X2 2) (X5 (.str "0123456789")))) (Y3))) δ)))) (Jz (Zs "NoText") (xS Xe)) (xS Xe)) (Jz (Vo (Q6W (fun δ=>toB (f2 (bD eqD) (f2 Vi (X2 1) (X5 (.int 0))) (X5 (.str "0")) δ)) (fun δ=>toB (f2 (bD neD) (X2 0) (X5 (.str "0")) δ))) (Jz (Zs "NoText") (xS Xe)) (xS Xe)) (Jz (xR (Ym (fA (g1 Q5h) (X7 (X2 0) (Y3))))) (xS Xe)))))
def W6:List Sl → Option (Rs × List Sl):=fnX [false] 1 3 [] (.f .n) Q1C
theorem Q3z (T:Txt K mg)  {f:Addr} {fd:FuncData} (Fu:Fun K "number_in" "number_in" Wm f fd) (m:mg "number_in" = some (.ref f)):GX P w K mg base "number_in" 1 1 0 (fun _=>false) (.f .n) W6:=by
 refine ⟨f,fd,["word"],Q3p (N:=["word", "figures", "sign"]) (fr:=.f .n) (g:=Q1C) (n:=1) (m:=0) (vl:=[]) (mv:=(fun _=>false)) (sg:=[false]) Fu Q0W rfl (Q3G rfl) (.inl (.inl rfl)) (Q5c (by decide +kernel)) (fun cd A out s G E hG hr=>?_),rfl,m,Fu.kp,Fu.binds fun _ _ _ _ _ _ us hl=>match us,hl with | [_],_=>rfl⟩
 have S:=Q0W; have h1:=hu1 hr; have h65:=Q08 hr; have h66:=Q0t hr; have h67:=Q0s hr
 exact X1 (Q1M (V3 rfl (tgk 1 S.nd) (X6 0))) (X1 (Q1M (Q24 (Xv (Vz h65).op Xh (Zr (X6 0) (Q0P) (Q0K (X3))) (Q0x)) (Xc (V3 rfl (tgk 1 S.nd) (Zr (X6 0) (Q0K (X3)) (Q0P))) (Xu)) (Xu))) (X1 (V8 (WV.tv (Q1W (Ww (Q7q Q36.op Xh Q36.op Xh (X3) (Yp (bnk T.m_len) Kv Z8 (X4 (X6 1) (Xk))) (Q2d T.c_MOST_FIGURES))) (Q29 (Ww (K1 (Yp (bnk T.m_all) (cr_all rfl) Q85 (X4 (NV.ev (Q55 (own:=[("sign",2)]) rfl S.nd (Q1e (X6 1)) (Z1 (N:=["word", "figures", "sign"]) (sc:=defScope Wm) (by decide +kernel)) (fun _ _ _ _ _=>Yq (tgk 2 S.nd)) (fun _ _ _ _ _=>Kl) (fun _ _ _ _ _=>Q6G (QbL h65).op Xh (X6 2) (Q2d T.c_FIGURES)))) (Xk)))))))) (X1 (K3 rfl (L2N.takes_of rfl rfl rfl rfl) (T.ex.xc (c := "NoText"))) (Xd)) (Xd)) (X1 (V8 (WV.tv (Qa0 (Xv (Vz h65).op Xh (Yi h1 (X6 1) (X3)) (Q0x)) (Q8a (Xv (Q1B h65).op Xh (X6 0) (Q0x))))) (X1 (K3 rfl (L2N.takes_of rfl rfl rfl rfl) (T.ex.xc (c := "NoText"))) (Xd)) (Xd)) (X1 (Qax (Ya (Q2p (bnk T.m_int) Q8Y Q8d (X4 (X6 0) (Xk))))) (Xd)))))
abbrev Yt:Stmt:=top 36
theorem Q09:FnScope ["text", "rows", "line", "word", "heads", "blocks", "sizes", "first", "behind", "row", "found"] ["text"] (defScope Yt):=⟨rfl,rfl,rfl,by decide +kernel,rfl,by decide +kernel,by decide +kernel⟩
def Q0J:List Sl → Option Ox:=Jz (Vo (Q06 (fun δ=>toB ((f1 (Q61 "str") (X2 0)) δ))) (Jz (Zs "NoText") (xS Xe)) (xS Xe)) (Jz (Q2A 1 (Q0F (.nm 2) [2] (fIt (f2 Q6E (X2 0) (X5 (.str "\n")))) (Kq) (Q0F (.nm 3) [3] (fIt (f2 Q6E (X2 2) (X5 (.str " ")))) (Kq) (K5 [] W6 (Ka (xOk (X2 3)) (xAs Ve)))))) (Jz (Vo (gOr (fun δ=>toB (f2 (bD neD) (fA (g1 Q05) (X7 (X2 1) (Y3))) (X5 (.int 5)) δ)) (gOr (fun δ=>toB (f2 (bD neD) (fA (g1 Q05) (X7 (f2 Vi (X2 1) (X5 (.int 0))) (Y3))) (X5 (.int 2)) δ)) (Q06 (fun δ=>toB (Y6 [] true V6 (Xn (f2 Vi (f2 Vi (X2 1) (X5 (.int 0))) (X5 (.int 0))) (Xn (f2 Vi (f2 Vi (X2 1) (X5 (.int 0))) (X5 (.int 1))) (Ve))) δ))))) (Jz (Zs "NoText") (xS Xe)) (xS Xe)) (Jz (xS (Q1A (.cons (.nm 4) (.cons (.nm 5) (.nil))) (f2 Vi (X2 1) (X5 (.int 0))))) (Jz (xS (Q2M 6 (fLc (.cons (.nm 7) (.cons (.nm 8) (.nil))) [7,8] (fIt (Y6 [] true Wn (Xn (X2 4) (Xn (X2 5) (Ve))))) (Kq) (f2 QaQ (X2 8) (X2 7))))) (Jz (Vo (fun δ=>toB (f2 (bD neD) (fLc (.nm 9) [9] (fIt (f3 Q3l (X2 1) (Q0S (X5 (.int 1))) (Q2i))) (Kq) (fA (g1 Q05) (X7 (X2 9) (Y3)))) (fRd 6) δ)) (Jz (Zs "NoText") (xS Xe)) (xS Xe)) (Jz (xS (Yv 10 (Q2J (X7 (X2 4) (X7 (X2 5) (X7 (fA (g1 Q8K) (X7 (f2 V7 (f2 V7 (f2 V7 (f2 Vi (X2 1) (X5 (.int 1))) (f2 Vi (X2 1) (X5 (.int 2)))) (f2 Vi (X2 1) (X5 (.int 3)))) (f2 Vi (X2 1) (X5 (.int 4)))) (Y3))) (Y3))))))) (Jz (Vo (Q06 (fun δ=>toB (Y6 [] true Wp (Xn (X2 10) (Ve)) δ))) (Jz (Zs "NoText") (xS Xe)) (xS Xe)) (Jz (xR (Ym (X2 10))) (xS Xe)))))))))
def Vr:List Sl → Option (Rs × List Sl):=fnX [false] 1 11 [] (.f .n) Q0J
theorem Q2G (T:Txt K mg) (k_is_shape:GK P w K mg base "is_shape" 2 2 .n V6) (k_is_store:GK P w K mg base "is_store" 3 1 .n Wp) (k_lines_of:GK P w K mg base "lines_of" 4 2 .l Wn) (k_number_in:GX P w K mg base "number_in" 1 1 0 (fun _=>false) (.f .n) W6) {f:Addr} {fd:FuncData} (Fu:Fun K "read_store" "read_store" Yt f fd) (m:mg "read_store" = some (.ref f)):GX P w K mg base "read_store" 5 1 0 (fun _=>false) (.f .n) Vr:=by
 refine ⟨f,fd,["text"],Q3p (N:=["text", "rows", "line", "word", "heads", "blocks", "sizes", "first", "behind", "row", "found"]) (fr:=.f .n) (g:=Q0J) (n:=1) (m:=0) (vl:=[]) (mv:=(fun _=>false)) (sg:=[false]) Fu Q09 rfl (Q3G rfl) (.inl (.inl rfl)) (Q5c (by decide +kernel)) (fun cd A out s G E hG hr=>?_),rfl,m,Fu.kp,Fu.binds fun _ _ _ _ _ _ us hl=>match us,hl with | [_],_=>rfl⟩
 have S:=Q09; have h1:=hu1 hr; have h65:=Q08 hr; have h66:=Q0t hr; have h67:=Q0s hr
 exact X1 (V8 (Ww (K1 (Q2m (T := "str") rfl (bnk T.m_isinstance) (bnk T.m_str) (X6 0)))) (X1 (K3 rfl (L2N.takes_of rfl rfl rfl rfl) (T.ex.xc (c := "NoText"))) (Xd)) (Xd)) (X1 (Q6o (own:=[("line",2)]) rfl (tgk 1 S.nd) rfl S.nd rfl rfl (Q1e (NV.ev (Q4d (X6 0) (Q0x)))) (Z1 (N:=["text", "rows", "line", "word", "heads", "blocks", "sizes", "first", "behind", "row", "found"]) (sc:=defScope Yt) (by decide +kernel)) (QaC (L2N.takes_of rfl rfl rfl rfl)) rfl rfl rfl (fun _ _ _ _ _ _ _=>Yq (tgk 2 S.nd)) (fun _ _ _ _ _ _ _=>Kl) (fun _ _ _ _ _ _ _ _ t1=>Qb6 (own:=[("word",3)]) rfl S.nd (Q1e (NV.ev (Q4d (X6 2) (Q0x)))) (Z1 (N:=["text", "rows", "line", "word", "heads", "blocks", "sizes", "first", "behind", "row", "found"]) rfl) t1 rfl rfl rfl (fun _ _ _ _ _ _ _=>Yq (tgk 3 S.nd)) (fun _ _ _ _ _ _ _=>Kl) (fun _ _ _ _ _ _ _ _ t2=>Q4W (Q1V (fun σ=>Qb3 t2 σ) (k_number_in.kn hr hG) (Vs (Zb (X6 3)) (Q0U)))))) (X1 (V8 (WV.tv (Q1W (Xv (Q1B h65).op Xh (Yp (bnk T.m_len) Kv Z8 (X4 (X6 1) (Xk))) (X3)) (Q1W (Xv (Q1B h65).op Xh (Yp (bnk T.m_len) Kv Z8 (X4 (Yi h1 (X6 1) (X3)) (Xk))) (X3)) (Q29 (Ww (K1 (Vx (k_is_shape.kn hr hG) (Xi (Yi h1 (Yi h1 (X6 1) (X3)) (X3)) (Xi (Yi h1 (Yi h1 (X6 1) (X3)) (X3)) (Yj)))))))))) (X1 (K3 rfl (L2N.takes_of rfl rfl rfl rfl) (T.ex.xc (c := "NoText"))) (Xd)) (Xd)) (X1 (Q1M (Q6m rfl (by decide) (Yi h1 (X6 1) (X3)) (Q11 (Yq (tgk 4 S.nd)) (Q11 (Yq (tgk 5 S.nd)) (Q59))))) (X1 (Q1M (Qbh (own:=[("first",7),("behind",8)]) rfl S.nd rfl rfl rfl (Q1e (NV.ev (QbS (k_lines_of.kn hr hG) (Xi (X6 4) (Xi (X6 5) (Yj)))))) (Z1 (N:=["text", "rows", "line", "word", "heads", "blocks", "sizes", "first", "behind", "row", "found"]) (sc:=defScope Yt) (by decide +kernel)) (fun _ _ _ _ _=>gv_t rfl (Q11 (Yq (tgk 7 S.nd)) (Q11 (Yq (tgk 8 S.nd)) (Q59)))) (fun _ _ _ _ _=>Kl) (fun _ _ _ _ _=>Xl op_sub Q9U (X6 8) (X6 7)) (by intro _; rfl) (by decide) (by decide) rfl)) (X1 (V8 (Xv (Q1B h65).op Xh (NV.ev (Q55 (own:=[("row",9)]) rfl S.nd (Q1e (Zr (X6 1) (Q0K (X3)) (Q0P))) (Z1 (N:=["text", "rows", "line", "word", "heads", "blocks", "sizes", "first", "behind", "row", "found"]) (sc:=defScope Yt) (by decide +kernel)) (fun _ _ _ _ _=>Yq (tgk 9 S.nd)) (fun _ _ _ _ _=>Kl) (fun _ _ _ _ _=>Yp (bnk T.m_len) Kv Z8 (X4 (X6 9) (Xk))))) (Q7K 6)) (X1 (K3 rfl (L2N.takes_of rfl rfl rfl rfl) (T.ex.xc (c := "NoText"))) (Xd)) (Xd)) (X1 (Q1M (V3 rfl (tgk 10 S.nd) (Q3J (X4 (X6 4) (X4 (X6 5) (X4 (Q2p (bnk T.m_tuple) Q7s Q83 (X4 (Xl Y0 Y1 (Xl Y0 Y1 (Xl Y0 Y1 (Yi h1 (X6 1) (X3)) (Yi h1 (X6 1) (X3))) (Yi h1 (X6 1) (X3))) (Yi h1 (X6 1) (X3))) (Xk))) (Xk))))))) (X1 (V8 (Ww (K1 (Vx (k_is_store.kn hr hG) (Xi (X6 10) (Yj))))) (X1 (K3 rfl (L2N.takes_of rfl rfl rfl rfl) (T.ex.xc (c := "NoText"))) (Xd)) (Xd)) (X1 (Qax (Ya (X6 10))) (Xd)))))))))
abbrev Ze:Stmt:=top 38
theorem Q14:FnScope ["_law_script", "_law_cells"] ["_law_script"] (defScope Ze):=⟨rfl,rfl,rfl,by decide +kernel,rfl,by decide +kernel,by decide +kernel⟩
theorem Q3e (T:Txt K mg) {f:Addr} {fd:FuncData} (Fu:Fun K "_law_deck" "_law_deck" Ze f fd) (m:mg "_law_deck" = some (.ref f)):GKD P w K mg base "_law_deck" 1:=by
 refine ⟨f,fd,["_law_script"],Q9b (f1:=f2 V7 (f2 W5 (fA (g1 Q69) (X7 (fRd 1) (Y3))) (X5 (.int 2147483629))) (f2 Yx (X5 (.int 48271)) (fA (g1 Q05) (X7 (fRd 1) (Y3))))) Fu Q14 rfl (fun ns=>?_) (fun cd A out s G E hG hr=>?_),m,Fu.kp,Fu.binds fun _ _ _ _ _ _ us hl=>match us,hl with | [_],_=>rfl⟩
 ·exact Q8l ns
 ·have S:=Q14; have h1:=hu1 hr; have h65:=Q08 hr
  exact ⟨Qas rfl (tgk 1 S.nd) (Q6e rfl rfl T.m_list rfl T.m_reversed (nmk 0) rfl rfl),Q9x (nmk 1) (Q3B (Xl Y0 Y1 (Xl op_mod Q0A (Yp (bnk T.m_sum) (Q8i rfl) Q9Z (X4 (Q7K 1) (Xk))) (X3)) (Xl Vb Vc (X3) (Yp (bnk T.m_len) Kv Z8 (X4 (Q7K 1) (Xk))))) (Q3B X3 Q72))⟩
abbrev Zm:Stmt:=top 39
theorem Q17:FnScope ["_law_deck_here", "_law_most", "_law_cell", "_law_number"] ["_law_deck_here", "_law_most"] (defScope Zm):=⟨rfl,rfl,rfl,by decide +kernel,rfl,by decide +kernel,by decide +kernel⟩
def Q3T:List Sl → Option Out:=Xb (Q6g 0 (f2 V7 (Q1X 0) (X5 (.int 1)))) (Xb (Yv 2 (Q5H (Q65 0) (Q6O 0) (Q2k 0))) (Xb (sIf (fun δ=>toB (f2 (bD geD) (X2 2) (f2 Q62 (X5 (.int 10)) (X5 (.int 18))) δ)) (Xb (Q68 (Q0Q 0 (f2 Z7 (X2 2) (X2 1)))) (Xb (Ym (f2 W5 (X2 2) (X2 1))) (Xe))) (Xe)) (Xb (Yv 3 (f2 W5 (f2 Yx (f2 V7 (f2 V7 (f2 W5 (X2 2) (X5 (.int 2147483629))) (f2 Yx (X5 (.int 104729)) (Q1X 0))) (X5 (.int 1))) (X5 (.int 48271))) (X5 (.int 2147483647)))) (Xb (Yv 3 (f2 W5 (f2 V7 (f2 V7 (f2 Yx (X2 3) (X2 3)) (f2 Yx (X5 (.int 69621)) (Q1X 0))) (X5 (.int 7))) (X5 (.int 2147483587)))) (Xb (Ym (f2 W5 (f2 Z7 (f2 W5 (f2 Yx (X2 3) (f2 V7 (f2 Z7 (X2 3) (X5 (.int 3))) (X5 (.int 39373)))) (X5 (.int 2305843009213693951))) (X5 (.int 128))) (X2 1))) (Xe))))))
def Yu:List Sl → Option (D × List Sl):=fnF [true,false] 4 .n Q3T
theorem Q3H (T:Txt K mg)  {f:Addr} {fd:FuncData} (Fu:Fun K "_law_draw" "_law_draw" Zm f fd) (m:mg "_law_draw" = some (.ref f)):GK P w K mg base "_law_draw" 1 2 .n Yu:=by
 refine ⟨f,fd,["_law_deck_here", "_law_most"],Zf Fu Q17 rfl (fun cd A out s G E hG hr=>?_),rfl,m,Fu.kp,Fu.binds fun _ _ _ _ _ _ us hl=>match us,hl with | [_,_],_=>rfl⟩
 have S:=Q17; have h1:=hu1 hr; have h65:=Q08 hr; have h66:=Q0t hr; have h67:=Q0s hr
 exact Xc (Q9Q h1 (nmk 0) (Xl Y0 Y1 (Q4N h1 (nmk 0)) (X3)) ⟨rfl,rfl,rfl,fun _=>rfl⟩) (Xc (V3 rfl (tgk 2 S.nd) (Qb4 (Qai h65 (nmk 0)) (QaG h1 (nmk 0)) (Q6z h1 (nmk 0) (by intro _ _; rfl) ⟨rfl,rfl⟩))) (Xc (Q24 (Xv QbO.op Xh (X6 2) (Xl op_pow Qb7 (X3) (X3))) (Xc (Qa6 (Q5X h1 (nmk 0) (by intro _ _; rfl) (Xl op_fdiv Q3q (X6 2) (X6 1)) ⟨rfl,rfl,rfl,rfl,rfl⟩)) (Xc (Ya (Xl op_mod Q0A (X6 2) (X6 1))) (Xu))) (Xu)) (Xc (V3 rfl (tgk 3 S.nd) (Xl op_mod Q0A (Xl Vb Vc (Xl Y0 Y1 (Xl Y0 Y1 (Xl op_mod Q0A (X6 2) (X3)) (Xl Vb Vc (X3) (Q4N h1 (nmk 0)))) (X3)) (X3)) (X3))) (Xc (V3 rfl (tgk 3 S.nd) (Xl op_mod Q0A (Xl Y0 Y1 (Xl Y0 Y1 (Xl Vb Vc (X6 3) (X6 3)) (Xl Vb Vc (X3) (Q4N h1 (nmk 0)))) (X3)) (X3))) (Xc (Ya (Xl op_mod Q0A (Xl op_fdiv Q3q (Xl op_mod Q0A (Xl Vb Vc (X6 3) (Xl Y0 Y1 (Xl op_fdiv Q3q (X6 3) (X3)) (X3))) (X3)) (X3)) (X6 1))) (Xu))))))
abbrev Z4:Stmt:=top 40
theorem Q15:FnScope ["_law_deck_here", "_law_some"] ["_law_deck_here", "_law_some"] (defScope Z4):=⟨rfl,rfl,rfl,by decide +kernel,rfl,by decide +kernel,by decide +kernel⟩
def Q4f:List Sl → Option Out:=Xb (Ym (f2 Vi (X2 1) (Y6 [] true Yu (kIo 0 (Xn (fA (g1 Q05) (X7 (X2 1) (Y3))) (Ve)))))) (Xe)
def W9:List Sl → Option (D × List Sl):=fnF [true,false] 2 .n Q4f
theorem Q3C (T:Txt K mg) (k__law_draw:GK P w K mg base "_law_draw" 1 2 .n Yu) {f:Addr} {fd:FuncData} (Fu:Fun K "_law_pick" "_law_pick" Z4 f fd) (m:mg "_law_pick" = some (.ref f)):GK P w K mg base "_law_pick" 2 2 .n W9:=by
 refine ⟨f,fd,["_law_deck_here", "_law_some"],Zf Fu Q15 rfl (fun cd A out s G E hG hr=>?_),rfl,m,Fu.kp,Fu.binds fun _ _ _ _ _ _ us hl=>match us,hl with | [_,_],_=>rfl⟩
 have S:=Q15; have h1:=hu1 hr; have h65:=Q08 hr; have h66:=Q0t hr; have h67:=Q0s hr
 exact Xc (Ya (Yi h1 (X6 1) (Vx (k__law_draw.kn hr hG) (Q7m (nmk 0) (Xi (Yp (bnk T.m_len) Kv Z8 (X4 (X6 1) (Xk))) (Yj)))))) (Xu)
abbrev Ks:Stmt:=top 41
theorem Q0g:FnScope ["_law_number", "_law_text"] ["_law_number", "_law_text"] (defScope Ks):=⟨rfl,rfl,rfl,by decide +kernel,rfl,by decide +kernel,by decide +kernel⟩
def Q0E:List Sl → Option Ox:=Jz (Vo (fun δ=>toB (f2 (bD eqD) (X2 0) (X5 (.int 0)) δ)) (Jz (Y2 "NoText" (X2 1)) (xS Xe)) (xS Xe)) (Jz (Vo (fun δ=>toB (f2 (bD eqD) (X2 0) (X5 (.int 1)) δ)) (Jz (Y2 "Unsound" (X2 1)) (xS Xe)) (xS Xe)) (Jz (Vo (fun δ=>toB (f2 (bD eqD) (X2 0) (X5 (.int 2)) δ)) (Jz (Y2 "NoPath" (X2 1)) (xS Xe)) (xS Xe)) (Jz (Vo (fun δ=>toB (f2 (bD eqD) (X2 0) (X5 (.int 3)) δ)) (Jz (Y2 "NoWorths" (X2 1)) (xS Xe)) (xS Xe)) (Jz (Vo (fun δ=>toB (f2 (bD eqD) (X2 0) (X5 (.int 4)) δ)) (Jz (Y2 "NoName" (X2 1)) (xS Xe)) (xS Xe)) (Jz (Vo (fun δ=>toB (f2 (bD eqD) (X2 0) (X5 (.int 5)) δ)) (Jz (Y2 "Ring" (X2 1)) (xS Xe)) (xS Xe)) (Jz (Vo (fun δ=>toB (f2 (bD eqD) (X2 0) (X5 (.int 6)) δ)) (Jz (Y2 "Taken" (X2 1)) (xS Xe)) (xS Xe)) (Jz (Vo (fun δ=>toB (f2 (bD eqD) (X2 0) (X5 (.int 7)) δ)) (Jz (Y2 "NotEmpty" (X2 1)) (xS Xe)) (xS Xe)) (Jz (Vo (fun δ=>toB (f2 (bD eqD) (X2 0) (X5 (.int 8)) δ)) (Jz (Y2 "Full" (X2 1)) (xS Xe)) (xS Xe)) (Jz (Vo (fun δ=>toB (f2 (bD eqD) (X2 0) (X5 (.int 9)) δ)) (Jz (Y2 "NoPlace" (X2 1)) (xS Xe)) (xS Xe)) (Jz (Vo (fun δ=>toB (f2 (bD eqD) (X2 0) (X5 (.int 10)) δ)) (Jz (Y2 "NoBack" (X2 1)) (xS Xe)) (xS Xe)) (Jz (Vo (fun δ=>toB (f2 (bD eqD) (X2 0) (X5 (.int 11)) δ)) (Jz (Y2 "NoRow" (X2 1)) (xS Xe)) (xS Xe)) (Jz (Vo (fun δ=>toB (f2 (bD eqD) (X2 0) (X5 (.int 13)) δ)) (Jz (Q1t (K5 [] Vr (Ka (xOk (X2 1)) (xAs Ve)))) (xS Xe)) (xS Xe)) (Jz (Y2 "StoreError" (X2 1)) (xS Xe))))))))))))))
def Vq:List Sl → Option (Rs × List Sl):=fnX [false,false] 2 2 [] (.f .n) Q0E
theorem Q2F (T:Txt K mg) (k_read_store:GX P w K mg base "read_store" 5 1 0 (fun _=>false) (.f .n) Vr) {f:Addr} {fd:FuncData} (Fu:Fun K "_law_raise" "_law_raise" Ks f fd) (m:mg "_law_raise" = some (.ref f)):GX P w K mg base "_law_raise" 6 2 0 (fun _=>false) (.f .n) Vq:=by
 refine ⟨f,fd,["_law_number", "_law_text"],Q3p (N:=["_law_number", "_law_text"]) (fr:=.f .n) (g:=Q0E) (n:=2) (m:=0) (vl:=[]) (mv:=(fun _=>false)) (sg:=[false,false]) Fu Q0g rfl (Q3G rfl) (.inl (.inl rfl)) (Q5c (by decide +kernel)) (fun cd A out s G E hG hr=>?_),rfl,m,Fu.kp,Fu.binds fun _ _ _ _ _ _ us hl=>match us,hl with | [_,_],_=>rfl⟩
 have S:=Q0g; have h1:=hu1 hr; have h65:=Q08 hr; have h66:=Q0t hr; have h67:=Q0s hr
 exact X1 (V8 (Xv (Vz h65).op Xh (X6 0) (X3)) (X1 (Xx rfl (L2N.takes_of rfl rfl rfl rfl) (T.ex.xc (c := "NoText")) (X6 1)) (Xd)) (Xd)) (X1 (V8 (Xv (Vz h65).op Xh (X6 0) (X3)) (X1 (Xx rfl (L2N.takes_of rfl rfl rfl rfl) (T.ex.xc (c := "Unsound")) (X6 1)) (Xd)) (Xd)) (X1 (V8 (Xv (Vz h65).op Xh (X6 0) (X3)) (X1 (Xx rfl (L2N.takes_of rfl rfl rfl rfl) (T.ex.xc (c := "NoPath")) (X6 1)) (Xd)) (Xd)) (X1 (V8 (Xv (Vz h65).op Xh (X6 0) (X3)) (X1 (Xx rfl (L2N.takes_of rfl rfl rfl rfl) (T.ex.xc (c := "NoWorths")) (X6 1)) (Xd)) (Xd)) (X1 (V8 (Xv (Vz h65).op Xh (X6 0) (X3)) (X1 (Xx rfl (L2N.takes_of rfl rfl rfl rfl) (T.ex.xc (c := "NoName")) (X6 1)) (Xd)) (Xd)) (X1 (V8 (Xv (Vz h65).op Xh (X6 0) (X3)) (X1 (Xx rfl (L2N.takes_of rfl rfl rfl rfl) (T.ex.xc (c := "Ring")) (X6 1)) (Xd)) (Xd)) (X1 (V8 (Xv (Vz h65).op Xh (X6 0) (X3)) (X1 (Xx rfl (L2N.takes_of rfl rfl rfl rfl) (T.ex.xc (c := "Taken")) (X6 1)) (Xd)) (Xd)) (X1 (V8 (Xv (Vz h65).op Xh (X6 0) (X3)) (X1 (Xx rfl (L2N.takes_of rfl rfl rfl rfl) (T.ex.xc (c := "NotEmpty")) (X6 1)) (Xd)) (Xd)) (X1 (V8 (Xv (Vz h65).op Xh (X6 0) (X3)) (X1 (Xx rfl (L2N.takes_of rfl rfl rfl rfl) (T.ex.xc (c := "Full")) (X6 1)) (Xd)) (Xd)) (X1 (V8 (Xv (Vz h65).op Xh (X6 0) (X3)) (X1 (Xx rfl (L2N.takes_of rfl rfl rfl rfl) (T.ex.xc (c := "NoPlace")) (X6 1)) (Xd)) (Xd)) (X1 (V8 (Xv (Vz h65).op Xh (X6 0) (X3)) (X1 (Xx rfl (L2N.takes_of rfl rfl rfl rfl) (T.ex.xc (c := "NoBack")) (X6 1)) (Xd)) (Xd)) (X1 (V8 (Xv (Vz h65).op Xh (X6 0) (X3)) (X1 (Xx rfl (L2N.takes_of rfl rfl rfl rfl) (T.ex.xc (c := "NoRow")) (X6 1)) (Xd)) (Xd)) (X1 (V8 (Xv (Vz h65).op Xh (X6 0) (X3)) (X1 (Q6v (Q4W (Q1V (fun σ=>L2N.passAt (L2N.takes_of rfl rfl rfl rfl) σ) (k_read_store.kn hr hG) (Vs (Zb (X6 1)) (Q0U))))) (Xd)) (Xd)) (X1 (Xx rfl (L2N.takes_of rfl rfl rfl rfl) (T.ex.xc (c := "StoreError")) (X6 1)) (Xd))))))))))))))
abbrev W7:Stmt:=top 42
theorem Q0a:FnScope ["_law_number", "_law_text", "_law_found", "_law_good", "e", "_law_some", "_law_k"] ["_law_number", "_law_text"] (defScope W7):=⟨rfl,rfl,rfl,by decide +kernel,rfl,by decide +kernel,by decide +kernel⟩
noncomputable def Q19:List Sl → Option Ox:=Jz (xS (Yv 2 (Q1q (Y3)))) (Jz (xS (Yv 3 (X5 (.bool false)))) (Jz (Za exN "StoreError" 4 (Jz (Q1t (K5 [] Vq (Ka (xOk (X2 0)) (Ka (xOk (X2 1)) (xAs Ve))))) (xS (Q1G [5]))) (fun c a=>Jz (xS (Yv 5 (Q1q (X7 (fXv 4 a (Xf c "NoText")) (X7 (fXv 4 a (Xf c "Unsound")) (X7 (fXv 4 a (Xf c "NoPath")) (X7 (fXv 4 a (Xf c "NoWorths")) (Y3)))))))) (Jz (xS (Yv 5 (f2 V7 (X2 5) (Q1q (X7 (fXv 4 a (Xf c "NoName")) (X7 (fXv 4 a (Xf c "Ring")) (X7 (fXv 4 a (Xf c "Taken")) (X7 (fXv 4 a (Xf c "NotEmpty")) (Y3))))))))) (Jz (xS (Yv 5 (f2 V7 (X2 5) (Q1q (X7 (fXv 4 a (Xf c "Full")) (X7 (fXv 4 a (Xf c "NoPlace")) (X7 (fXv 4 a (Xf c "NoBack")) (X7 (fXv 4 a (Xf c "NoRow")) (Y3))))))))) (Jz (xS (Yv 2 (fLc (.nm 6) [6] (Q1f (X7 (X5 (.int 12)) (Y3))) (fun δ=>toB ((f2 Vi (X2 5) (X2 6)) δ)) (X2 6)))) (Jz (xS (Yv 3 (fXv 4 a true))) (xS (Q1G [5])))))))) (Jz (xR (Ym (Q2J (X7 (X2 2) (X7 (X2 3) (Y3)))))) (xS Xe))))
noncomputable def Yz:List Sl → Option (Rs × List Sl):=fnX [false,false] 2 7 [] (.f .n) Q19
theorem Q2B (T:Txt K mg) (k__law_raise:GX P w K mg base "_law_raise" 6 2 0 (fun _=>false) (.f .n) Vq) {f:Addr} {fd:FuncData} (Fu:Fun K "_law_heard" "_law_heard" W7 f fd) (m:mg "_law_heard" = some (.ref f)):GX P w K mg base "_law_heard" 7 2 0 (fun _=>false) (.f .n) Yz:=by
 refine ⟨f,fd,["_law_number", "_law_text"],Q3p (N:=["_law_number", "_law_text", "_law_found", "_law_good", "e", "_law_some", "_law_k"]) (fr:=.f .n) (g:=Q19) (n:=2) (m:=0) (vl:=[]) (mv:=(fun _=>false)) (sg:=[false,false]) Fu Q0a rfl (Q3G rfl) (.inl (.inl rfl)) (Q5c (by decide +kernel)) (fun cd A out s G E hG hr=>?_),rfl,m,Fu.kp,Fu.binds fun _ _ _ _ _ _ us hl=>match us,hl with | [_,_],_=>rfl⟩
 have S:=Q0a; have h1:=hu1 hr; have h65:=Q08 hr; have h66:=Q0t hr; have h67:=Q0s hr
 exact X1 (Q1M (V3 rfl (tgk 2 S.nd) (NV.ev (Q0z (Xk))))) (X1 (Q1M (V3 rfl (tgk 3 S.nd) (Q12))) (X1 (Q6l rfl rfl T.ex rfl rfl rfl rfl (tgk 4 S.nd) rfl (fun h=>h.elim .inl fun h=>.inr (.inl h)) (L2N.takes_of rfl rfl rfl rfl) (fun W pn xe tk po=>X1 (Q6v (Q4W (Q1V (fun σ=>L2N.passAt tk σ) (k__law_raise.kn hr hG) (Vs (Zb (X6 0)) (Vs (Zb (X6 1)) (Q0U)))))) (Q5f rfl)) (fun c a C oe pn hc hC hz hf hn=>X1 (Q1M (V3 rfl (tgk 5 S.nd) (NV.ev (Q0z (X4 (Vv (d := "NoText") T.ex hc hC hz hf (bnk T.m_isinstance) (nmk 4) rfl rfl rfl rfl rfl rfl) (X4 (Vv (d := "Unsound") T.ex hc hC hz hf (bnk T.m_isinstance) (nmk 4) rfl rfl rfl rfl rfl rfl) (X4 (Vv (d := "NoPath") T.ex hc hC hz hf (bnk T.m_isinstance) (nmk 4) rfl rfl rfl rfl rfl rfl) (X4 (Vv (d := "NoWorths") T.ex hc hC hz hf (bnk T.m_isinstance) (nmk 4) rfl rfl rfl rfl rfl rfl) (Xk))))))))) (X1 (Q1M (V3 rfl (tgk 5 S.nd) (Xl Y0 Y1 (X6 5) (NV.ev (Q0z (X4 (Vv (d := "NoName") T.ex hc hC hz hf (bnk T.m_isinstance) (nmk 4) rfl rfl rfl rfl rfl rfl) (X4 (Vv (d := "Ring") T.ex hc hC hz hf (bnk T.m_isinstance) (nmk 4) rfl rfl rfl rfl rfl rfl) (X4 (Vv (d := "Taken") T.ex hc hC hz hf (bnk T.m_isinstance) (nmk 4) rfl rfl rfl rfl rfl rfl) (X4 (Vv (d := "NotEmpty") T.ex hc hC hz hf (bnk T.m_isinstance) (nmk 4) rfl rfl rfl rfl rfl rfl) (Xk)))))))))) (X1 (Q1M (V3 rfl (tgk 5 S.nd) (Xl Y0 Y1 (X6 5) (NV.ev (Q0z (X4 (Vv (d := "Full") T.ex hc hC hz hf (bnk T.m_isinstance) (nmk 4) rfl rfl rfl rfl rfl rfl) (X4 (Vv (d := "NoPlace") T.ex hc hC hz hf (bnk T.m_isinstance) (nmk 4) rfl rfl rfl rfl rfl rfl) (X4 (Vv (d := "NoBack") T.ex hc hC hz hf (bnk T.m_isinstance) (nmk 4) rfl rfl rfl rfl rfl rfl) (X4 (Vv (d := "NoRow") T.ex hc hC hz hf (bnk T.m_isinstance) (nmk 4) rfl rfl rfl rfl rfl rfl) (Xk)))))))))) (X1 (Q1M (Q8E (own:=[("_law_k",6)]) (Qa2 hf hn) S.nd rfl rfl rfl (Q4B rfl T.m_range (X4 (X3) (Xk)) rfl (Q1R (Q3g))) (Z1 (N:=["_law_number", "_law_text", "_law_found", "_law_good", "e", "_law_some", "_law_k"]) (sc:=defScope W7) (by decide +kernel)) (fun _ _ _ _ _ _ _=>Yq (tgk 6 S.nd)) (fun _ _ _ _ _ _ _=>Q8c (K1 (Yi h1 (X6 5) (X6 6)))) (fun _ _ _ _ _ _ _=>X6 6) (by intro _; rfl) (by decide) rfl)) (X1 (Q1M (V3 rfl (tgk 3 S.nd) (Q95 T.ex hc hC hz hf (bnk T.m_isinstance) (nmk 4) (bnk T.m_ValueError) rfl rfl rfl))) (Q5f rfl))))))) (X1 (Qax (Ya (Q3J (X4 (X6 2) (X4 (X6 3) (Xk)))))) (Xd))))
abbrev Q0f:Stmt:=top 43
theorem Q7T:FnScope ["_law_script", "_law_deck_here", "_law_turn", "_law_signs", "_law_number", "_law_k"] ["_law_script"] (defScope Q0f):=⟨rfl,rfl,rfl,by decide +kernel,rfl,by decide +kernel,by decide +kernel⟩
noncomputable def Qbb:List Sl → Option Out:=Xb (Q4l 1 0) (Xb (Q8w [2,3,4] (Q4F (.nm 2) (Q1f (X7 (X5 (.int 2)) (Y3))) (Xb (Yv 3 (f2 Q5e (X5 (.str "")) (fLc (.nm 5) [5] (Q1f (X7 (Y6 [] true Yu (kIo 1 (Xn (X5 (.int 41)) (Ve)))) (Y3))) (Kq) (Y6 [] true W9 (kIo 1 (Xn (X5 (.str "ab .~0")) (Ve))))))) (Xb (Q8w [4] (Q4F (.nm 4) (Q1f (X7 (X5 (.int 13)) (Y3))) (Xb (sIf (fun δ=>toB (f2 (bD neD) (okR (K5 [] Yz (Ka (xOk (X2 4)) (Ka (xOk (X2 3)) (xAs Ve))))) (Q2J (X7 (f2 Yx (Q1q (X7 (X2 4) (Y3))) (fA (g1 Q98) (X7 (f2 (bD ltD) (X2 4) (X5 (.int 12))) (Y3)))) (X7 (X5 (.bool true)) (Y3)))) δ)) (Xb (Ym (X5 (.bool false))) (Xe)) (Xe)) (Q1G [4])))) (Xb (sIf (fun δ=>toB (f2 (bD neD) (okR (K5 [] Yz (Ka (xOk (X5 (.int 13))) (Ka (xOk (X2 3)) (xAs Ve))))) (Q2J (X7 (Q1q (X7 (X5 (.int 0)) (Y3))) (X7 (X5 (.bool true)) (Y3)))) δ)) (Xb (Ym (X5 (.bool false))) (Xe)) (Xe)) (Q1G [2,3,4])))))) (Xb (Ym (X5 (.bool true))) (Xe)))
noncomputable def φ_law:List Sl → Option (D × List Sl):=fnF [false] 6 .n Qbb
theorem Qap (T:Txt K mg) (k__law_deck:GKD P w K mg base "_law_deck" 1) (k__law_draw:GK P w K mg base "_law_draw" 1 2 .n Yu) (k__law_heard:GX P w K mg base "_law_heard" 7 2 0 (fun _=>false) (.f .n) Yz) (k__law_pick:GK P w K mg base "_law_pick" 2 2 .n W9) {f:Addr} {fd:FuncData} (Fu:Fun K "law" "law" Q0f f fd):FnG P w K mg base CX0 8 f fd ["_law_script"] (spF K 1 .n φ_law):=by
 refine Zf Fu Q7T rfl fun cd A out s G E hG hr=>?_
 have S:=Q7T; have h1:=hu1 hr; have h65:=Q08 hr; have h66:=Q0t hr; have h67:=Q0s hr
 exact Xc (Q9k rfl (tgk 1 S.nd) (nmk 0) (k__law_deck.kn hr hG)) (Xc (Q6V rfl (Q6J (passes_of rfl) rfl (Q1p rfl T.m_range (X4 (X3) (Xk)) rfl (Q1R (Q3g))) (Yq (tgk 2 S.nd)) (by decide) (Xc (V3 rfl (tgk 3 S.nd) (Q8Q (Q0x) (NV.ev (Q55 (own:=[("_law_k",5)]) rfl S.nd (Q1p rfl T.m_range (X4 (Vx (k__law_draw.kn hr hG) (Q7m (nmk 1) (Xi (X3) (Yj)))) (Xk)) rfl (Q1R (Q3g))) (Z1 (N:=["_law_script", "_law_deck_here", "_law_turn", "_law_signs", "_law_number", "_law_k"]) (sc:=defScope Q0f) (by decide +kernel)) (fun _ _ _ _ _=>Yq (tgk 5 S.nd)) (fun _ _ _ _ _=>Kl) (fun _ _ _ _ _=>Vx (k__law_pick.kn hr hG) (Q7m (nmk 1) (Xi (Q0x) (Yj)))))))) (Xc (Q6V rfl (Q6J (passes_of rfl) rfl (Q1p rfl T.m_range (X4 (X3) (Xk)) rfl (Q1R (Q3g))) (Yq (tgk 4 S.nd)) (by decide) (Xc (Q24 (Xv (Q1B h65).op Xh (Q9B (Q1V Q5n (k__law_heard.kn hr hG) (Vs (Zb (X6 4)) (Vs (Zb (X6 3)) (Q0U))))) (Q3J (X4 (Xl Vb Vc (NV.ev (Q0z (X4 (X6 4) (Xk)))) (Q2p (bnk T.m_int) Q9R Qa8 (X4 (Q6G (Qbr h65).op Xh (X6 4) (X3)) (Xk)))) (X4 (Q12) (Xk))))) (Xc (Ya (Q12)) (Xu)) (Xu)) (Q5v rfl)))) (Xc (Q24 (Xv (Q1B h65).op Xh (Q9B (Q1V Q5n (k__law_heard.kn hr hG) (Vs (Zb (X3)) (Vs (Zb (X6 3)) (Q0U))))) (Q3J (X4 (NV.ev (Q0z (X4 (X3) (Xk)))) (X4 (Q12) (Xk))))) (Xc (Ya (Q12)) (Xu)) (Xu)) (Q5v rfl)))))) (Xc (Ya (Q12)) (Xu)))
end
end K06
namespace K06
open PySem PySem.Spec PyProof.Rows L2 Z
def Wq (thing:Int):Option Bool:=(some (true && (!false)))
theorem Zl (thing:Int):∀ v,Wq thing = some v → Yg [.fz (Q0 thing)] = some ((Qg v),[.fz (Q0 thing)]):=by
 exact Q2C (Wy (Q7V (Q6d (Jy 0 rfl) (rfl)) (Qa9 (Q6d (Jy 0 rfl) (rfl)))) rfl)
def Q0C (heads:Int) (blocks:Int):Option Bool:=((((Wq heads)).bind fun r1=>if (!r1) then some true else (((Wq blocks)).map fun r2=>(!r2)))).bind fun b4=>if b4 then (some false) else (some ((decide (2 ≤ heads) && decide (heads ≤ 8)) && (decide (3 ≤ blocks) && decide (blocks ≤ 12))))
theorem Q1Y (heads:Int) (blocks:Int):∀ v,Q0C heads blocks = some v → V6 [.fz (Q0 heads),.fz (Q0 blocks)] = some ((Qg v),[.fz (Q0 heads),.fz (Q0 blocks)]):=by
 exact Q2C (Q22 (Q4C (Q0w (Q0q (Yf (Xo (Jy 0 rfl) Yn) (Zl _ )) (fun _=>rfl))) (fun _=>rfl) (fun r1=>(Q28 (r':=fun (c3:Bool)=>(c3,[.fz (Q0 heads),.fz (Q0 blocks)])) (Q0w (Q0q (Yf (Xo (Jy 1 rfl) Yn) (Zl _ )) (fun _=>rfl))) (fun _=>rfl))) (fun _=>rfl)) (fun _=>rfl) (fun b4=>(Z3 (Wy (X0:VP _ _ (.bool false)) rfl))) (fun b4=>(Q0Y (Wy (Q7V (Q4p (X0:VP _ _ (.int 2)) (Jy 0 rfl) (X0:VP _ _ (.int 8)) (Q5F _ _) (Q5F _ _)) (Q4p (X0:VP _ _ (.int 3)) (Jy 1 rfl) (X0:VP _ _ (.int 12)) (Q5F _ _) (Q5F _ _))) rfl))))
def Ko (heads:Int) (blocks:Int):Option Int:=(Q8g (1 + 4) blocks).bind fun v1=>(some (((7 * heads) + v1) + 82))
theorem Q16 (heads:Int) (blocks:Int):∀ v,Ko heads blocks = some v → Yh [.fz (Q0 heads),.fz (Q0 blocks)] = some ((Q0 v),[.fz (Q0 heads),.fz (Q0 blocks)]):=by
 exact Q2C (Q0D (Q1T (Y5 (Q1T (Q1u (Vk (X0:VP _ _ (.int 7)) (Jy 0 rfl) (Q0u _ _ rfl)) (Y5 (Vt (q:=Q8g (1 + 4) blocks) (e:=Q0) (Vk (X0:VP _ _ (.int 1)) (X0:VP _ _ (.int 4)) (K2 _ _)) (Jy 1 rfl) (fun _ h=>QaF _ _ _ h)) (fun v1=>Xa))) (fun v1=>g2x (K2 _ _))) (fun v1=>(X8 (X0:VP _ _ (.int 82)) Xa))) (fun v1=>g2x (K2 _ _))) (fun _=>rfl))
def Q2x (thing:(Int × Int × (List Int))):Option Bool:=((if (!true) then some true else (if (!decide (3 = 3)) then some true else (((Q0C thing.1 thing.2.1)).map fun r1=>(!r1))))).bind fun b5=>if b5 then (some false) else ((if (!true) then some true else (((Ko thing.1 thing.2.1)).map fun r7=>(!decide ((Q4k thing.2.2) = r7))))).bind fun b9=>if b9 then (some false) else ((Kt thing.2.2 (mapM (fun x10=>(Wq x10)) thing.2.2))).bind fun l12=>(some (l12.all id))
theorem Q4X (thing:(Int × Int × (List Int))):∀ v,Q2x thing = some v → Wp [.fz ((eP3 Q0 Q0 (eTu Q0)) thing)] = some ((Qg v),[.fz ((eP3 Q0 Q0 (eTu Q0)) thing)]):=by
 exact Q2C (X9 (δ':=[.fz ((eP3 Q0 Q0 (eTu Q0)) thing),.no,.no]) (Q22 (Q3n (v:=true) (Q4D (Kk (Q6d (Jy 0 rfl) (rfl)))) (Q7S (r':=fun (c4:Bool)=>(c4,[.fz ((eP3 Q0 Q0 (eTu Q0)) thing),.no,.no])) (Q3n (v:=true) (Kk (Vk (Q5A (X8 (Jy 0 rfl) Xa) (rfl)) (X0:VP _ _ (.int 3)) (Q4a gI _ _))) (Q28 (r':=fun (c2:Bool)=>(c2,[.fz ((eP3 Q0 Q0 (eTu Q0)) thing),.no,.no])) (Q0w (Q0q (Yf (Xo (Vk (Jy 0 rfl) (X0:VP _ _ (.int 0)) (QbU _ _)) (Xo (Vk (Jy 0 rfl) (X0:VP _ _ (.int 1)) (Qbw _ _ _)) Yn)) (Q1Y _ _ )) (fun _=>rfl))) (fun _=>rfl)) rfl) (fun _=>rfl)) rfl) (fun _=>rfl) (fun b5=>(Z3 (Wy (X0:VP _ _ (.bool false)) rfl))) (fun b5=>(Q0Y (Q1c (Vk (Jy 0 rfl) (X0:VP _ _ (.int 2)) (ixp2 _ _ _ _)) (X9 (δ':=[.fz ((eP3 Q0 Q0 (eTu Q0)) thing),.fz ((eTu Q0) thing.2.2),.no]) (Q22 (Q3n (v:=true) (Q4D (Kk (Q6d (Jy 1 rfl) (rfl)))) (Q28 (r':=fun (c8:Bool)=>(c8,[.fz ((eP3 Q0 Q0 (eTu Q0)) thing),.fz ((eTu Q0) thing.2.2),.no])) (Q0q (Q1T (Q1u (Q5A (X8 (Jy 1 rfl) Xa) (Qat _)) (Y5 (Yf (Xo (Vk (Jy 0 rfl) (X0:VP _ _ (.int 0)) (QbU _ _)) (Xo (Vk (Jy 0 rfl) (X0:VP _ _ (.int 1)) (Qbw _ _ _)) Yn)) (Q16 _ _ )) (fun r7=>Xa))) (fun r7=>g2x (Q4a gI _ _))) (fun _=>rfl)) (fun _=>rfl)) rfl) (fun _=>rfl) (fun b9=>(Z3 (Wy (X0:VP _ _ (.bool false)) rfl))) (fun b9=>(Q0Y (Q0D (Q6s (Y5 (Q5q (e:=Q0) (e':=Qg) (Q75 (Jy 1 rfl) (Qbv _)) (fun x10=>(Kb 2)) (fun x10=>(Q9z (Yf (Xo (Jy 2 rfl) Yn) (Zl _ )) (fun _=>rfl)))) (fun l12=>Xa)) (fun l12=>Q9N _)) (fun _=>rfl)))))))))))
def Z0 (heads:Int):Option Int:=(some (7 * heads))
theorem Q1F (heads:Int):∀ v,Z0 heads = some v → Yw [.fz (Q0 heads)] = some ((Q0 v),[.fz (Q0 heads)]):=by
 exact Q2C (Wy (Vk (X0:VP _ _ (.int 7)) (Jy 0 rfl) (Q0u _ _ rfl)) rfl)
def Wr (heads:Int) (blocks:Int):Option Int:=((Z0 heads)).bind fun r1=>(some (r1 + blocks))
theorem Q0c (heads:Int) (blocks:Int):∀ v,Wr heads blocks = some v → Y4 [.fz (Q0 heads),.fz (Q0 blocks)] = some ((Q0 v),[.fz (Q0 heads),.fz (Q0 blocks)]):=by
 exact Q2C (Q0D (Q1T (Y5 (Yf (Xo (Jy 0 rfl) Yn) (Q1F _ )) (fun r1=>(X8 (Jy 1 rfl) Xa))) (fun r1=>g2x (K2 _ _))) (fun _=>rfl))
def Q1H (heads:Int) (blocks:Int):Option Int:=((Wr heads blocks)).bind fun r1=>(some (r1 + (4 * blocks)))
theorem Q41 (heads:Int) (blocks:Int):∀ v,Q1H heads blocks = some v → Wb [.fz (Q0 heads),.fz (Q0 blocks)] = some ((Q0 v),[.fz (Q0 heads),.fz (Q0 blocks)]):=by
 exact Q2C (Q0D (Q1T (Y5 (Yf (Xo (Jy 0 rfl) (Xo (Jy 1 rfl) Yn)) (Q0c _ _ )) (fun r1=>(X8 (Vk (X0:VP _ _ (.int 4)) (Jy 1 rfl) (Q0u _ _ rfl)) Xa))) (fun r1=>g2x (K2 _ _))) (fun _=>rfl))
def Q2j (heads:Int) (blocks:Int):Option (List (Int × Int)):=((((Z0 heads)).bind fun r1=>((((Wr heads blocks)).bind fun r2=>((((Q1H heads blocks)).bind fun r3=>((Ko heads blocks)).map fun r4=>(r3,r4))).map fun b5=>(r2,b5))).map fun b6=>(r1,b6))).bind fun b7=>Q5R ([0,b7.1,b7.2.1,b7.2.2.1,b7.2.2.2]) fun ends_8=>(some (((Kd ends_8 none (some (-1)))).zip (Kd ends_8 (some 1) none)))
theorem Q4S (heads:Int) (blocks:Int):∀ v,Q2j heads blocks = some v → Wn [.fz (Q0 heads),.fz (Q0 blocks)] = some (((eLi (eP2 Q0 Q0)) v),[.fz (Q0 heads),.fz (Q0 blocks)]):=by
 exact Q2C (Q5z (e:=(eLi Q0)) (Q7M (z:=fun b7=>((eLi Q0) ([0,b7.1,b7.2.1,b7.2.2.1,b7.2.2.2]))) (Qb2 (Q1u (X0:VP _ _ (.int 0)) (Q2w (Yf (Xo (Jy 0 rfl) Yn) (Q1F _ )) (fun r1=>(Q2w (Yf (Xo (Jy 0 rfl) (Xo (Jy 1 rfl) Yn)) (Q0c _ _ )) (fun r2=>(Q2w (Yf (Xo (Jy 0 rfl) (Xo (Jy 1 rfl) Yn)) (Q41 _ _ )) (fun r3=>(Y5 (Yf (Xo (Jy 0 rfl) (Xo (Jy 1 rfl) Yn)) (Q16 _ _ )) (fun r4=>Xa)))))))))) (fun _=>rfl)) (fun _=>rfl) (fun b7 ends_8=>(Wy (Q5A (X8 (Q9W (Jy 2 rfl) Q0O (Q13 (Q6d (X0:VP _ _ (.int 1)) (QbQ _))) (Q6C _ _ _)) (X8 (Q9W (Jy 2 rfl) (Q13 (X0:VP _ _ (.int 1))) Q0O (Q6C _ _ _)) Xa)) (Q9a _ _ _ _)) rfl)))
def V4 (word:Str):Option ((Str) ⊕ Int):=((Q4V word none (some 1)).bind fun v2=>if (decide (v2 = ("-":Str))) then (Q4V word (some 1) none).bind fun v4=>(some v4) else (some word)).bind fun s3=>((((Q4j s3)).bind fun v6=>if (!(decide (1 ≤ v6) && decide (v6 ≤ 40))) then some true else (((Kt (chN s3) (mapM (fun x7=>(inD (Q2 x7) (Q2 ("0123456789":Str)))) (chN s3)))).map fun l9=>(!(l9.all id))))).bind fun b11=>if b11 then (some (Qr ("NoText":Str))) else ((((sIx s3 0)).bind fun v12=>if (decide (v12 = ("0":Str))) then (some (!decide (word = ("0":Str)))) else some false)).bind fun b14=>if b14 then (some (Qr ("NoText":Str))) else ((Q4q word)).bind fun v15=>(some (Sum.inr v15))
theorem Q3Z (word:Str):∀ v,V4 word = some v → W6 [.fz (Q2 word)] = some (eX (fun e=>e) (fun e=>[.fz (Q2 word)]) (fun v=>(Q0 v)) (fun v=>[.fz (Q2 word)]) v):=by
 exact QaW (X9 (δ':=[.fz (Q2 word),.no,.no]) (Q1P K0 (Q1c (Jy 0 rfl) (X9 (δ':=[.fz (Q2 word),.fz (Q2 word),.no]) (Q1P (QbN (Q9T K0 Q81) Q81) (Q89 (st:=fun s3=>[.fz (Q2 word),.fz (Q2 s3),.no]) (Q8V (Q0q (Q1T (Y5 (Q9t (q:=Q4V word none (some 1)) (e:=Q2) (Jy 0 rfl) Q0O (Q13 (X0:VP _ _ (.int 1))) (fun _ h=>Q9L _ _ _ _ h)) (fun v2=>(X8 (X0:VP _ _ (.str ("-":Str))) Xa))) (fun v2=>g2x (Q0h gS _ _))) (fun _=>rfl)) (fun _=>rfl) (fun v2=>(Zw (Q9t (q:=Q4V word (some 1) none) (e:=Q2) (Jy 0 rfl) (Q13 (X0:VP _ _ (.int 1))) Q0O (fun _ h=>Q9L _ _ _ _ h)) (fun v4=>(Q6X (v:=v4) rfl)))) (fun v2=>(Q6X (v:=word) rfl))) (fun s3=>(X9 (δ':=[.fz (Q2 word),.fz (Q2 s3),.no]) (Q2a (Q4C (Q0w (Q0q (Q7j (Q1u (X0:VP _ _ (.int 1)) (Y5 (Q6Z (q:=(Q4j s3)) (e:=Q0) (X8 (Jy 1 rfl) Xa) (fun _ h=>Q82 _ _ h)) (fun v6=>Xa))) (fun _=>rfl) (fun v6=>(X0:VP _ _ (.int 40))) (fun _=>Q5F _ _) (fun _=>Q5F _ _)) (fun _=>rfl))) (fun _=>rfl) (fun v6=>(Q28 (r':=fun (c10:Bool)=>(c10,[.fz (Q2 word),.fz (Q2 s3),.no])) (Q0w (Q0q (Q6s (Y5 (Q5q (e:=Q2) (e':=Qg) (Q75 (Jy 1 rfl) (Qbc _)) (fun x7=>(Kb 2)) (fun x7=>(Q9z (Vt (q:=(inD (Q2 x7) (Q2 ("0123456789":Str)))) (e:=Qg) (Jy 2 rfl) (X0:VP _ _ (.str ("0123456789":Str))) (fun _ h=>rawB _ _ h)) (fun _=>rfl)))) (fun l9=>Xa)) (fun l9=>Q9N _)) (fun _=>rfl))) (fun _=>rfl))) (fun _=>rfl)) (fun _=>rfl) (fun b11=>(Xm (X9 (δ':=[.fz (Q2 word),.fz (Q2 s3),.no]) (K6 (v:=(Qr ("NoText":Str))) rfl)))) (fun b11=>(Xr (X9 (δ':=[.fz (Q2 word),.fz (Q2 s3),.no]) (Q2a (Q91 (Q0q (Q1T (Y5 (Vt (q:=(sIx s3 0)) (e:=Q2) (Jy 1 rfl) (X0:VP _ _ (.int 0)) (fun _ h=>Q9H _ _ _ h)) (fun v12=>(X8 (X0:VP _ _ (.str ("0":Str))) Xa))) (fun v12=>g2x (Q0h gS _ _))) (fun _=>rfl)) (fun _=>rfl) (fun v12=>(QbE (v:=(!decide (word = ("0":Str)))) (r':=fun (c13:Bool)=>(c13,[.fz (Q2 word),.fz (Q2 s3),.no])) (Kk (Vk (Jy 0 rfl) (X0:VP _ _ (.str ("0":Str))) (Q4a gS _ _))) rfl)) (fun _=>rfl)) (fun _=>rfl) (fun b14=>(Xm (X9 (δ':=[.fz (Q2 word),.fz (Q2 s3),.no]) (K6 (v:=(Qr ("NoText":Str))) rfl)))) (fun b14=>(Xr (X9 (δ':=[.fz (Q2 word),.fz (Q2 s3),.no]) (Q9c (Q6Z (q:=(Q4q word)) (e:=Q0) (X8 (Jy 0 rfl) Xa) (fun _ h=>Q8v _ _ h)) (fun _=>rfl))))))))))))))))))
def Ys (text:Str):Option ((Str) ⊕ (Int × Int × (List Int))):=if (!true) then (some (Qr ("NoText":Str))) else ((((Q2I text ("\n":Str))).bind fun v1=>(Kt v1 (Q3E (fun x2=>(((((Q2I x2 (" ":Str))).bind fun v3=>(Kt v3 (Q3E (fun x4=>(V4 x4)) v3)).map (Sum.map (fun z9=>(v3,z9)) (fun z10=>(v3,z10))))).map (Sum.map (fun (e8:(_ × Str))=>(e8.2:Str)) (fun (r7:(_ × (List Int)))=>r7.2)))) v1)).map (Sum.map (fun z13=>(v1,z13)) (fun z14=>(v1,z14))))).bind (Jm (fun e12=>some (Qr e12.2)) fun r11=>((if (!decide ((Q4k r11.2) = 5)) then some true else (((atI r11.2 0)).bind fun v15=>if (!decide ((Q4k v15) = 2)) then some true else (((((((((atI r11.2 0)).bind fun v16=>((atI v16 0)).map fun v18=>(v16,v18))).bind fun b17=>((((atI r11.2 0)).bind fun v19=>((atI v19 1)).map fun v21=>(v19,v21))).map fun b20=>(b17,b20))).bind fun b22=>(Q0C b22.1.2 b22.2.2).map fun v24=>(b22,v24))).map fun r23=>(!r23.2))))).bind fun b28=>if b28 then (some (Qr ("NoText":Str))) else ((atI r11.2 0)).bind fun v29=>(Qaw v29).bind fun t30=>((((Q2j t30.1 t30.2)).bind fun r31=>(Q9l (fun x32=>(x32.2 - x32.1)) r31).map fun v35=>(r31,v35))).bind fun l34=>((Q9l (fun x37=>(Q4k x37)) (Kd r11.2 (some 1) none))).bind fun l38=>if (!decide (l38 = l34.2)) then (some (Qr ("NoText":Str))) else ((((((((((((((atI r11.2 1)).bind fun v39=>((atI r11.2 2)).map fun v40=>(v39,v40))).bind fun b41=>(Q23 b41.1 b41.2).map fun v43=>(b41,v43))).bind fun b42=>((atI r11.2 3)).map fun v44=>(b42,v44))).bind fun b45=>(Q23 b45.1.2 b45.2).map fun v47=>(b45,v47))).bind fun b46=>((atI r11.2 4)).map fun v48=>(b46,v48))).bind fun b49=>(Q23 b49.1.2 b49.2).map fun v51=>(b49,v51))).bind fun b50=>Q5R (t30.1,t30.2,b50.2) fun found_52=>((Q2x found_52)).bind fun r53=>if (!r53) then (some (Qr ("NoText":Str))) else (some (Sum.inr found_52)))
theorem Q3A (text:Str):∀ v,Ys text = some v → Vr [.fz (Q2 text)] = some (eX (fun e=>e) (fun e=>[.fz (Q2 text)]) (fun v=>((eP3 Q0 Q0 (eTu Q0)) v)) (fun v=>[.fz (Q2 text)]) v):=by
 exact QaW (X9 (δ':=[.fz (Q2 text),.no,.no,.no,.no,.no,.no,.no,.no,.no,.no]) (Wo (Q4D (Kk (Q6d (Jy 0 rfl) (rfl)))) (Xm (X9 (δ':=[.fz (Q2 text),.no,.no,.no,.no,.no,.no,.no,.no,.no,.no]) (K6 (v:=(Qr ("NoText":Str))) rfl))) (Xr (X9 (δ':=[.fz (Q2 text),.no,.no,.no,.no,.no,.no,.no,.no,.no,.no]) (Q9S (Q79 (δ:=[.fz (Q2 text),.no,.no,.no,.no,.no,.no,.no,.no,.no,.no]) (e':=(eLi Q0)) (Q7G (Vt (q:=(Q2I text ("\n":Str))) (e:=(eLi Q2)) (Jy 0 rfl) (X0:VP _ _ (.str ("\n":Str))) (fun _ h=>Q6R _ _ _ h)) (fun _=>Q5r _)) (fun v1=>by exact (Q76 (δ:=[.fz (Q2 text),.no,.no,.no,.no,.no,.no,.no,.no,.no,.no]) (e:=Q2) (e':=(eLi Q0)) Q5y (fun x2=>(Kb 2)) (fun x2=>by exact (Qa7 (δ:=[.fz (Q2 text),.no,.fz (Q2 x2),.no,.no,.no,.no,.no,.no,.no,.no]) (ce:=fun (e8:(_ × Str))=>(e8.2:Str)) (e':=(eLi Q0)) (by exact (Q79 (δ:=[.fz (Q2 text),.no,.fz (Q2 x2),.no,.no,.no,.no,.no,.no,.no,.no]) (e':=Q0) (Q7G (Vt (q:=(Q2I x2 (" ":Str))) (e:=(eLi Q2)) (Jy 2 rfl) (X0:VP _ _ (.str (" ":Str))) (fun _ h=>Q6R _ _ _ h)) (fun _=>Q5r _)) (fun v3=>by exact (Q76 (δ:=[.fz (Q2 text),.no,.fz (Q2 x2),.no,.no,.no,.no,.no,.no,.no,.no]) (e:=Q2) (e':=Q0) Q5y (fun x4=>(Kb 3)) (fun x4=>by exact (Qan (δ:=[.fz (Q2 text),.no,.fz (Q2 x2),.fz (Q2 x4),.no,.no,.no,.no,.no,.no,.no]) (by exact (Q3N (Wj (Jy 3 rfl) Q2q) (Q3Z _ ))))))))) (fun (r7:(_ × (List Int)))=>r7.2)))))) (fun _=>rfl) (fun r11=>(X9 (δ':=[.fz (Q2 text),.fz ((eLi (eLi Q0)) r11.2),.no,.no,.no,.no,.no,.no,.no,.no,.no]) (Q2a (Q3n (v:=true) (Kk (Vk (Q5A (X8 (Jy 1 rfl) Xa) (Q4P _)) (X0:VP _ _ (.int 5)) (Q4a gI _ _))) (Q7S (r':=fun (c27:Bool)=>(c27,[.fz (Q2 text),.fz ((eLi (eLi Q0)) r11.2),.no,.no,.no,.no,.no,.no,.no,.no,.no])) (Q4C (Q0q (Q1T (Y5 (Q6s (Y5 (Vt (q:=(atI r11.2 0)) (e:=(eLi Q0)) (Jy 1 rfl) (X0:VP _ _ (.int 0)) (fun _ h=>Z6 _ _ _ h)) (fun v15=>Xa)) (fun v15=>Q4P _)) (fun v15=>(X8 (X0:VP _ _ (.int 2)) Xa))) (fun v15=>g2x (Q4a gI _ _))) (fun _=>rfl)) (fun _=>rfl) (fun v15=>(Q28 (r':=fun (c25:Bool)=>(c25,[.fz (Q2 text),.fz ((eLi (eLi Q0)) r11.2),.no,.no,.no,.no,.no,.no,.no,.no,.no])) (Q0w (Q0q (Q4w (Qbm (Q2c (e:=fun _=>Q0) (Y5 (Vt (q:=(atI r11.2 0)) (e:=(eLi Q0)) (Jy 1 rfl) (X0:VP _ _ (.int 0)) (fun _ h=>Z6 _ _ _ h)) (fun v16=>(X8 (X0:VP _ _ (.int 0)) Xa))) (fun v16 _ h=>g2x (Z6 _ _ _ h))) (fun b17=>(Q9O (Q2c (e:=fun _=>Q0) (Y5 (Vt (q:=(atI r11.2 0)) (e:=(eLi Q0)) (Jy 1 rfl) (X0:VP _ _ (.int 0)) (fun _ h=>Z6 _ _ _ h)) (fun v19=>(X8 (X0:VP _ _ (.int 1)) Xa))) (fun v19 _ h=>g2x (Z6 _ _ _ h))) (fun b20=>Yn)))) (fun b22=>Q1Y b22.1.2 b22.2.2)) (fun _=>rfl))) (fun _=>rfl))) (fun _=>rfl)) (fun _=>rfl)) rfl) (fun _=>rfl) (fun b28=>(Xm (X9 (δ':=[.fz (Q2 text),.fz ((eLi (eLi Q0)) r11.2),.no,.no,.no,.no,.no,.no,.no,.no,.no]) (K6 (v:=(Qr ("NoText":Str))) rfl)))) (fun b28=>(Xr (X9 (δ':=[.fz (Q2 text),.fz ((eLi (eLi Q0)) r11.2),.no,.no,.no,.no,.no,.no,.no,.no,.no]) (Q1P Q8q (Q7B (δx:=fun v29 t30=>[.fz (Q2 text),.fz ((eLi (eLi Q0)) r11.2),.no,.no,.fz (Q0 t30.1),.fz (Q0 t30.2),.no,.no,.no,.no,.no]) (ee:=Q0) (xs:=fun v29=>v29) (show VN _ _ ((atI r11.2 0)) _ from (Vt (q:=(atI r11.2 0)) (e:=(eLi Q0)) (Jy 1 rfl) (X0:VP _ _ (.int 0)) (fun _ h=>Z6 _ _ _ h))) (fun _=>rfl) (fun v29 t30=>(Q0N (Kb 4) (Q0N (Kb 5) Q5b))) (fun v29 t30=>(X9 (δ':=[.fz (Q2 text),.fz ((eLi (eLi Q0)) r11.2),.no,.no,.fz (Q0 t30.1),.fz (Q0 t30.2),.no,.no,.no,.no,.no]) (Q1P Qao (Q8X (Q7r (Q7G (Yf (Xo (Jy 4 rfl) (Xo (Jy 5 rfl) Yn)) (Q4S _ _ )) (fun _=>Q5r _)) (fun r31=>(Q7l (e:=(eP2 Q0 Q0)) (e':=Q0) Q5y (fun x32=>(Qb8 (Q0N (Kb 7) (Q0N (Kb 8) Q5b)))) (fun x32=>(Vk (Jy 8 rfl) (Jy 7 rfl) (Q7h _ _)))))) (fun l34=>(X9 (δ':=[.fz (Q2 text),.fz ((eLi (eLi Q0)) r11.2),.no,.no,.fz (Q0 t30.1),.fz (Q0 t30.2),.ow ((eLi Q0) l34.2),.no,.no,.no,.no]) (Q2a (Q0q (Q1T (Y5 (Q7l (e:=(eLi Q0)) (e':=Q0) (Q75 (Q9W (Jy 1 rfl) (Q13 (X0:VP _ _ (.int 1))) Q0O (Q6C _ _ _)) (Q5r _)) (fun x37=>(Kb 9)) (fun x37=>(Q5A (X8 (Jy 9 rfl) Xa) (Q4P _)))) (fun l38=>(X8 (Qba 6 rfl:VP _ _ ((eLi Q0) l34.2)) Xa))) (fun l38=>g2x (Q4a (gLi gI) _ _))) (fun _=>rfl)) (fun _=>rfl) (fun l38=>(Xm (X9 (δ':=[.fz (Q2 text),.fz ((eLi (eLi Q0)) r11.2),.no,.no,.fz (Q0 t30.1),.fz (Q0 t30.2),.ow ((eLi Q0) l34.2),.no,.no,.no,.no]) (K6 (v:=(Qr ("NoText":Str))) rfl)))) (fun l38=>(Xr (X9 (δ':=[.fz (Q2 text),.fz ((eLi (eLi Q0)) r11.2),.no,.no,.fz (Q0 t30.1),.fz (Q0 t30.2),.ow ((eLi Q0) l34.2),.no,.no,.no,.no]) (Q1P K0 (Q5z (e:=(eP3 Q0 Q0 (eTu Q0))) (Q7M (z:=fun b50=>((eP3 Q0 Q0 (eTu Q0)) (t30.1,t30.2,b50.2))) (Q7c (Q1u (Jy 4 rfl) (Q1u (Jy 5 rfl) (Y5 (Q6s (Y5 (Q2c (e:=fun _=>(eLi Q0)) (Q2w (Q2c (e:=fun _=>(eLi Q0)) (Q2w (Q2c (e:=fun _=>(eLi Q0)) (Q2w (Vt (q:=(atI r11.2 1)) (e:=(eLi Q0)) (Jy 1 rfl) (X0:VP _ _ (.int 1)) (fun _ h=>Z6 _ _ _ h)) (fun v39=>(Y5 (Vt (q:=(atI r11.2 2)) (e:=(eLi Q0)) (Jy 1 rfl) (X0:VP _ _ (.int 2)) (fun _ h=>Z6 _ _ _ h)) (fun v40=>Xa)))) (fun b41 _ h=>g2x (Q2e _ _ _ h))) (fun b42=>(Y5 (Vt (q:=(atI r11.2 3)) (e:=(eLi Q0)) (Jy 1 rfl) (X0:VP _ _ (.int 3)) (fun _ h=>Z6 _ _ _ h)) (fun v44=>Xa)))) (fun b45 _ h=>g2x (Q2e _ _ _ h))) (fun b46=>(Y5 (Vt (q:=(atI r11.2 4)) (e:=(eLi Q0)) (Jy 1 rfl) (X0:VP _ _ (.int 4)) (fun _ h=>Z6 _ _ _ h)) (fun v48=>Xa)))) (fun b49 _ h=>g2x (Q2e _ _ _ h))) (fun b50=>Xa)) (fun b50=>QaZ _)) (fun b50=>Xa))))) (fun _=>rfl)) (fun _=>rfl) (fun b50 found_52=>(X9 (δ':=[.fz (Q2 text),.fz ((eLi (eLi Q0)) r11.2),.no,.no,.fz (Q0 t30.1),.fz (Q0 t30.2),.ow ((eLi Q0) l34.2),.no,.no,.no,.fz ((eP3 Q0 Q0 (eTu Q0)) found_52)]) (Q2a (Q0w (Q0q (Yf (Xo (Jy 10 rfl) Yn) (Q4X _ )) (fun _=>rfl))) (fun _=>rfl) (fun r53=>(Xm (X9 (δ':=[.fz (Q2 text),.fz ((eLi (eLi Q0)) r11.2),.no,.no,.fz (Q0 t30.1),.fz (Q0 t30.2),.ow ((eLi Q0) l34.2),.no,.no,.no,.fz ((eP3 Q0 Q0 (eTu Q0)) found_52)]) (K6 (v:=(Qr ("NoText":Str))) rfl)))) (fun r53=>(Xr (X9 (δ':=[.fz (Q2 text),.fz ((eLi (eLi Q0)) r11.2),.no,.no,.fz (Q0 t30.1),.fz (Q0 t30.2),.ow ((eLi Q0) l34.2),.no,.no,.no,.fz ((eP3 Q0 Q0 (eTu Q0)) found_52)]) (Q6L (Jy 10 rfl) rfl))))))))))))))))))))))))))))))))
theorem Q7b (k:Dk) (M:Int):∀ v,Q1K k M = some v → Yu [sDk k,.fz (.int M)] = some (.int v.1,[sDk v.2,.fz (.int M)]):=Q8j k M
def V2 (deck:Dk) (some_:Str):Option (Str × Dk):=((((((Q4j some_)).bind fun v1=>(Q1K deck v1).map fun v3=>(v1,v3))).bind fun r2=>((sIx some_ r2.2.1)).map fun v5=>(r2,v5))).bind fun b4=>(some (b4.2,b4.1.2.2))
theorem Q1N (deck:Dk) (some_:Str):∀ v,V2 deck some_ = some v → W9 [sDk deck,.fz (Q2 some_)] = some ((Q2 v.1),[sDk v.2,.fz (Q2 some_)]):=by
 exact Q2C (Q0D (Q2c (e:=fun _=>Q2) (Q1u (Jy 1 rfl) (Y5 (Q4w (Q9X 0 (Q9O (Q6Z (q:=(Q4j some_)) (e:=Q0) (X8 (Jy 1 rfl) Xa) (fun _ h=>Q82 _ _ h)) (fun v1=>Yn))) (fun v1=>Q7b deck v1)) (fun r2=>Xa))) (fun r2 _ h=>g2x (Q9H _ _ _ h))) (fun _=>rfl))
def Zv (number:Int) (text:Str):Option ((Str) ⊕ Int):=if (decide (number = 0)) then (some (Qr ("NoText":Str))) else if (decide (number = 1)) then (some (Qr ("Unsound":Str))) else if (decide (number = 2)) then (some (Qr ("NoPath":Str))) else if (decide (number = 3)) then (some (Qr ("NoWorths":Str))) else if (decide (number = 4)) then (some (Qr ("NoName":Str))) else if (decide (number = 5)) then (some (Qr ("Ring":Str))) else if (decide (number = 6)) then (some (Qr ("Taken":Str))) else if (decide (number = 7)) then (some (Qr ("NotEmpty":Str))) else if (decide (number = 8)) then (some (Qr ("Full":Str))) else if (decide (number = 9)) then (some (Qr ("NoPlace":Str))) else if (decide (number = 10)) then (some (Qr ("NoBack":Str))) else if (decide (number = 11)) then (some (Qr ("NoRow":Str))) else if (decide (number = 13)) then ((Ys text)).bind (Jm (fun e2=>some (Qr e2)) fun r1=>(some (Qr ("StoreError":Str)))) else (some (Qr ("StoreError":Str)))
theorem Q5V (number:Int) (text:Str):∀ v,Zv number text = some v → Vq [.fz (Q0 number),.fz (Q2 text)] = some (eX (fun e=>e) (fun e=>[.fz (Q0 number),.fz (Q2 text)]) (fun v=>(Q0 v)) (fun v=>[.fz (Q0 number),.fz (Q2 text)]) v):=by
 exact QaW (X9 (δ':=[.fz (Q0 number),.fz (Q2 text)]) (Wo (Kk (Vk (Jy 0 rfl) (X0:VP _ _ (.int 0)) (Q0h gI _ _))) (Xm (X9 (δ':=[.fz (Q0 number),.fz (Q2 text)]) (Xt (Jy 1 rfl) (v:=(Qr ("NoText":Str))) rfl))) (Xr (X9 (δ':=[.fz (Q0 number),.fz (Q2 text)]) (Wo (Kk (Vk (Jy 0 rfl) (X0:VP _ _ (.int 1)) (Q0h gI _ _))) (Xm (X9 (δ':=[.fz (Q0 number),.fz (Q2 text)]) (Xt (Jy 1 rfl) (v:=(Qr ("Unsound":Str))) rfl))) (Xr (X9 (δ':=[.fz (Q0 number),.fz (Q2 text)]) (Wo (Kk (Vk (Jy 0 rfl) (X0:VP _ _ (.int 2)) (Q0h gI _ _))) (Xm (X9 (δ':=[.fz (Q0 number),.fz (Q2 text)]) (Xt (Jy 1 rfl) (v:=(Qr ("NoPath":Str))) rfl))) (Xr (X9 (δ':=[.fz (Q0 number),.fz (Q2 text)]) (Wo (Kk (Vk (Jy 0 rfl) (X0:VP _ _ (.int 3)) (Q0h gI _ _))) (Xm (X9 (δ':=[.fz (Q0 number),.fz (Q2 text)]) (Xt (Jy 1 rfl) (v:=(Qr ("NoWorths":Str))) rfl))) (Xr (X9 (δ':=[.fz (Q0 number),.fz (Q2 text)]) (Wo (Kk (Vk (Jy 0 rfl) (X0:VP _ _ (.int 4)) (Q0h gI _ _))) (Xm (X9 (δ':=[.fz (Q0 number),.fz (Q2 text)]) (Xt (Jy 1 rfl) (v:=(Qr ("NoName":Str))) rfl))) (Xr (X9 (δ':=[.fz (Q0 number),.fz (Q2 text)]) (Wo (Kk (Vk (Jy 0 rfl) (X0:VP _ _ (.int 5)) (Q0h gI _ _))) (Xm (X9 (δ':=[.fz (Q0 number),.fz (Q2 text)]) (Xt (Jy 1 rfl) (v:=(Qr ("Ring":Str))) rfl))) (Xr (X9 (δ':=[.fz (Q0 number),.fz (Q2 text)]) (Wo (Kk (Vk (Jy 0 rfl) (X0:VP _ _ (.int 6)) (Q0h gI _ _))) (Xm (X9 (δ':=[.fz (Q0 number),.fz (Q2 text)]) (Xt (Jy 1 rfl) (v:=(Qr ("Taken":Str))) rfl))) (Xr (X9 (δ':=[.fz (Q0 number),.fz (Q2 text)]) (Wo (Kk (Vk (Jy 0 rfl) (X0:VP _ _ (.int 7)) (Q0h gI _ _))) (Xm (X9 (δ':=[.fz (Q0 number),.fz (Q2 text)]) (Xt (Jy 1 rfl) (v:=(Qr ("NotEmpty":Str))) rfl))) (Xr (X9 (δ':=[.fz (Q0 number),.fz (Q2 text)]) (Wo (Kk (Vk (Jy 0 rfl) (X0:VP _ _ (.int 8)) (Q0h gI _ _))) (Xm (X9 (δ':=[.fz (Q0 number),.fz (Q2 text)]) (Xt (Jy 1 rfl) (v:=(Qr ("Full":Str))) rfl))) (Xr (X9 (δ':=[.fz (Q0 number),.fz (Q2 text)]) (Wo (Kk (Vk (Jy 0 rfl) (X0:VP _ _ (.int 9)) (Q0h gI _ _))) (Xm (X9 (δ':=[.fz (Q0 number),.fz (Q2 text)]) (Xt (Jy 1 rfl) (v:=(Qr ("NoPlace":Str))) rfl))) (Xr (X9 (δ':=[.fz (Q0 number),.fz (Q2 text)]) (Wo (Kk (Vk (Jy 0 rfl) (X0:VP _ _ (.int 10)) (Q0h gI _ _))) (Xm (X9 (δ':=[.fz (Q0 number),.fz (Q2 text)]) (Xt (Jy 1 rfl) (v:=(Qr ("NoBack":Str))) rfl))) (Xr (X9 (δ':=[.fz (Q0 number),.fz (Q2 text)]) (Wo (Kk (Vk (Jy 0 rfl) (X0:VP _ _ (.int 11)) (Q0h gI _ _))) (Xm (X9 (δ':=[.fz (Q0 number),.fz (Q2 text)]) (Xt (Jy 1 rfl) (v:=(Qr ("NoRow":Str))) rfl))) (Xr (X9 (δ':=[.fz (Q0 number),.fz (Q2 text)]) (Wo (Kk (Vk (Jy 0 rfl) (X0:VP _ _ (.int 13)) (Q0h gI _ _))) (Xm (X9 (δ':=[.fz (Q0 number),.fz (Q2 text)]) (Q6S (Q3N (Wj (Jy 1 rfl) Q2q) (Q3A _ )) (fun _=>rfl) (fun r1=>(Xr (X9 (δ':=[.fz (Q0 number),.fz (Q2 text)]) (Xt (Jy 1 rfl) (v:=(Qr ("StoreError":Str))) rfl))))))) (Xr (X9 (δ':=[.fz (Q0 number),.fz (Q2 text)]) (Xt (Jy 1 rfl) (v:=(Qr ("StoreError":Str))) rfl)))))))))))))))))))))))))))))))))))))))))
def Vl (number:Int) (text:Str):Option ((List Int) × Bool):=(((((Zv number text)).bind (Jm (fun e4=>some (Qr e4)) fun r3=>(some (Sum.inr ([],false)))):Option ((Str) ⊕ ((List Int) × Bool)))).bind (Jm (fun e5=>if exN.contains e5 && Xf e5 "StoreError" then Q5R ([(Xf e5 "NoText"),(Xf e5 "Unsound"),(Xf e5 "NoPath"),(Xf e5 "NoWorths")]) fun some_7=>(Q23 some_7 ([(Xf e5 "NoName"),(Xf e5 "Ring"),(Xf e5 "Taken"),(Xf e5 "NotEmpty")])).bind fun v8=>(Q23 v8 ([(Xf e5 "Full"),(Xf e5 "NoPlace"),(Xf e5 "NoBack"),(Xf e5 "NoRow")])).bind fun v10=>((Kt (rngK 12) (Q3I (fun x12=>(atI v10 x12)) (fun x12=>(some x12)) (rngK 12)))).bind fun l14=>(some (l14,true)) else none) some)).bind fun s17=>(some (s17.1,s17.2))
theorem Q2R (number:Int) (text:Str):∀ v,Vl number text = some v → Yz [.fz (Q0 number),.fz (Q2 text)] = some (.ok ((eP2 (eLi Q0) Qg) v),[.fz (Q0 number),.fz (Q2 text)]):=by
 exact fx_n (X9 (δ':=[.fz (Q0 number),.fz (Q2 text),.no,.no,.no,.no,.no]) (Q1P K0 (Q1c ((Q1r Xa):VP _ _ ((eLi Q0) ([]))) (X9 (δ':=[.fz (Q0 number),.fz (Q2 text),.fz ((eLi Q0) ([])),.no,.no,.no,.no]) (Q1P K0 (Q1c (X0:VP _ _ (.bool false)) (X9 (δ':=[.fz (Q0 number),.fz (Q2 text),.fz ((eLi Q0) ([])),.fz (Qg false),.no,.no,.no]) (Q80 (ns:=exN) (dc := "StoreError") (ce:=fun (e5:Str)=>e5) (se:=fun (e5:Str)=>[.fz (Q0 number),.fz (Q2 text),.fz ((eLi Q0) ([])),.fz (Qg false),.no,.no,.no]) (st:=fun s17=>[.fz (Q0 number),.fz (Q2 text),.fz ((eLi Q0) s17.1),.fz (Qg s17.2),.no,.no,.no]) (hb:=(X9 (δ':=[.fz (Q0 number),.fz (Q2 text),.fz ((eLi Q0) ([])),.fz (Qg false),.no,.no,.no]) (Q6S (Q3N (Wj (Jy 0 rfl) (Wj (Jy 1 rfl) Q2q)) (Q5V _ _ )) (fun _=>rfl) (fun r3=>(Q51 (v:=(Sum.inr ([],false))) rfl))))) (hs:=fun e5 a6=>(X9 (δ':=[.fz (Q0 number),.fz (Q2 text),.fz ((eLi Q0) ([])),.fz (Qg false),.xv a6,.no,.no]) (Q1P K0 (Q8P (e:=(eLi Qg)) (v:=[(Xf e5 "NoText"),(Xf e5 "Unsound"),(Xf e5 "NoPath"),(Xf e5 "NoWorths")]) ((Q1r (X8 (K7 rfl) (X8 (K7 rfl) (X8 (K7 rfl) (X8 (K7 rfl) Xa))))):VP _ _ ((eLi Qg) ([(Xf e5 "NoText"),(Xf e5 "Unsound"),(Xf e5 "NoPath"),(Xf e5 "NoWorths")]))) (fun some_7=>(X9 (δ':=[.fz (Q0 number),.fz (Q2 text),.fz ((eLi Q0) ([])),.fz (Qg false),.xv a6,.fz ((eLi Qg) some_7),.no]) (Q1P K0 (Zw (Vt (q:=Q23 some_7 ([(Xf e5 "NoName"),(Xf e5 "Ring"),(Xf e5 "Taken"),(Xf e5 "NotEmpty")])) (e:=(eLi Qg)) (Jy 5 rfl) ((Q1r (X8 (K7 rfl) (X8 (K7 rfl) (X8 (K7 rfl) (X8 (K7 rfl) Xa))))):VP _ _ ((eLi Qg) ([(Xf e5 "NoName"),(Xf e5 "Ring"),(Xf e5 "Taken"),(Xf e5 "NotEmpty")]))) (fun _ h=>Q2e _ _ _ h)) (fun v8=>(X9 (δ':=[.fz (Q0 number),.fz (Q2 text),.fz ((eLi Q0) ([])),.fz (Qg false),.xv a6,.fz ((eLi Qg) v8),.no]) (Q1P K0 (Zw (Vt (q:=Q23 v8 ([(Xf e5 "Full"),(Xf e5 "NoPlace"),(Xf e5 "NoBack"),(Xf e5 "NoRow")])) (e:=(eLi Qg)) (Jy 5 rfl) ((Q1r (X8 (K7 rfl) (X8 (K7 rfl) (X8 (K7 rfl) (X8 (K7 rfl) Xa))))):VP _ _ ((eLi Qg) ([(Xf e5 "Full"),(Xf e5 "NoPlace"),(Xf e5 "NoBack"),(Xf e5 "NoRow")]))) (fun _ h=>Q2e _ _ _ h)) (fun v10=>(X9 (δ':=[.fz (Q0 number),.fz (Q2 text),.fz ((eLi Q0) ([])),.fz (Qg false),.xv a6,.fz ((eLi Qg) v10),.no]) (Q1P K0 (Zw (Q6T (e:=Q0) (e':=Q0) (Q9i (X8 (X0:VP _ _ (.int 12)) Xa)) (fun x12=>(Kb 6)) (fun x12=>(Q7S (Q0q (Vt (q:=(atI v10 x12)) (e:=Qg) (Jy 5 rfl) (Jy 6 rfl) (fun _ h=>Z6 _ _ _ h)) (fun _=>rfl)) (fun _=>rfl))) (fun x12=>(Qbt (v:=x12) (Jy 6 rfl) rfl))) (fun l14=>(X9 (δ':=[.fz (Q0 number),.fz (Q2 text),.fz ((eLi Q0) l14),.fz (Qg false),.xv a6,.fz ((eLi Qg) v10),.no]) (Q1P K0 (Q1c (K7 rfl) (Q51 (v:=(l14,true)) rfl))))))))))))))))))))) (k:=fun s17=>(X9 (δ':=[.fz (Q0 number),.fz (Q2 text),.fz ((eLi Q0) s17.1),.fz (Qg s17.2),.no,.no,.no]) (Q6L ((Q7d (X8 (Jy 2 rfl) (X8 (Jy 3 rfl) Xa))):VP _ _ ((eP2 (eLi Q0) Qg) (s17.1,s17.2))) rfl)))))))))))
def Q5g (script:List Int):Option Bool:=(Q4v (fun x2 s1=>((((((((Q1K s1 41)).bind fun r3=>(Q9h r3.1).map fun v5=>(r3,v5))).bind fun b4=>(Kt b4.2 (Q4G (fun x9 s8=>(((V2 s8 ("ab .~0":Str))).map fun r10=>(r10.1,r10.2))) b4.2 b4.1.2)).map fun v12=>(b4,v12))).bind fun l11=>((Q57 ("":Str) l11.2.1)).map fun v14=>(l11,v14))).bind fun b13=>(Q4v (fun x17 s16=>((((Vl x17 b13.2)).bind fun r18=>(Q7v ([x17]) (boI (decide (x17 < 12)))).map fun v20=>(r18,v20))).bind fun b21=>if (!decide (b21.1 = (b21.2,true))) then (some (Sum.inr false)) else (some (Qr ()))) (Q1h 0 (13:Int).toNat) ()).bind (Jm (fun s16=>((Vl 13 b13.2)).bind fun r22=>if (!decide (r22 = ([0],true))) then (some (Sum.inr false)) else (some (Qr b13.1.2.2))) (fun v25=>(some (Sum.inr v25))))) (Q1h 0 (2:Int).toNat) (Q31 script)).bind (Jm (fun s1=>(some true)) (fun v27=>(some v27)))
theorem Qbk (script:List Int):∀ v,Q5g script = some v → φ_law [.scr script] = some ((Qg v),[.scr script]):=by
 exact Q2C (X9 (δ':=[.scr script,.no,.no,.no,.no,.no]) (Q8p (Q7Z (X9 (δ':=[.scr script,sDk (Q31 script),.no,.no,.no,.no]) (Q5a (e:=Q0) (st:=fun s1=>[.scr script,sDk s1,.no,.no,.no,.no]) (s0:=(Q31 script)) (rv:=fun v26=>(Qg v26)) (ro:=fun v26=>[.scr script]) (Q3w (X8 (X0:VP _ _ (.int 2)) Xa)) (fun x2 s1=>(Kb 2)) (fun x2 s1=>(X9 (δ':=[.scr script,sDk s1,.fz (Q0 x2),.no,.no,.no]) (Zw (Q2c (e:=fun _=>Q2) (Q1u (X0:VP _ _ (.str ("":Str))) (Y5 (Q7r (Q7u  (Y5 (Yf (Q9I 1 (Xo (X0:VP _ _ (.int 41)) Yn)) (Q7b _ _ )) (fun r3=>Xa)) (fun _=>rfl)) (fun b4=>(Q8t (e:=Q0) (e':=Q2) (st:=fun s8=>[.scr script,sDk s8,.fz (Q0 x2),.no,.no,.no]) (s0:=b4.1.2) (δb:=fun x9 s8=>[.scr script,sDk s8,.fz (Q0 x2),.no,.no,.fz (Q0 x9)]) Q5y (fun x9 s8=>(Kb 5)) (fun x9 s8=>(Qag (Yf (Q9I 1 (Xo (X0:VP _ _ (.str ("ab .~0":Str))) Yn)) (Q1N _ _ )) (fun _=>rfl)))))) (fun l11=>Xa))) (fun l11 _ h=>g2x (Q9g _ _ _ h))) (fun b13=>(Q7Z (X9 (δ':=[.scr script,sDk b13.1.2.2,.fz (Q0 x2),.fz (Q2 b13.2),.no,.no]) (Q5a (e:=Q0) (st:=fun s16=>[.scr script,sDk b13.1.2.2,.fz (Q0 x2),.fz (Q2 b13.2),.no,.no]) (s0:=()) (rv:=fun v24=>(Qg v24)) (ro:=fun v24=>[.scr script]) (Q3w (X8 (X0:VP _ _ (.int 13)) Xa)) (fun x17 s16=>(Kb 4)) (fun x17 s16=>(X9 (δ':=[.scr script,sDk b13.1.2.2,.fz (Q0 x2),.fz (Q2 b13.2),.fz (Q0 x17),.no]) (Q22 (Q0q (Q1T (Q2w (Q9A (Wj (Jy 4 rfl) (Wj (Jy 3 rfl) Q2q)) (Q2R _ _ )) (fun r18=>(Y5 (Q7M (z:=fun (v20:(List Int))=>((eP2 (eLi Q0) Qg) (v20,true))) (Q7c (Y5 (Vt (q:=Q7v ([x17]) (boI (decide (x17 < 12)))) (e:=(eLi Q0)) ((Q1r (X8 (Jy 4 rfl) Xa)):VP _ _ ((eLi Q0) ([x17]))) (Q5A (X8 (Vk (Jy 4 rfl) (X0:VP _ _ (.int 12)) (lt_i _ _)) Xa) (QbI _)) (fun _ h=>Qa4 _ _ _ h)) (fun v20=>(X8 (X0:VP _ _ (.bool true)) Xa)))) (fun _=>rfl)) (fun v20=>Xa)))) (fun b21=>g2x (Q4a (gP2 (gLi gI) gB) _ _))) (fun _=>rfl)) (fun _=>rfl) (fun b21=>(Z3 (X9 (δ':=[.scr script,sDk b13.1.2.2,.fz (Q0 x2),.fz (Q2 b13.2),.fz (Q0 x17),.no]) (Wy (X0:VP _ _ (.bool false)) rfl)))) (fun b21=>(Q0Y (Q47 (v:=(Qr ())) rfl)))))) (fun _=>⟨_,rfl,rfl⟩) (fun s16=>(X9 (δ':=[.scr script,sDk b13.1.2.2,.fz (Q0 x2),.fz (Q2 b13.2),.no,.no]) (Q22 (Q0q (Q1T (Y5 (Q9A (Wj (X0:VP _ _ (.int 13)) (Wj (Jy 3 rfl) Q2q)) (Q2R _ _ )) (fun r22=>(X8 ((Q7d (X8 ((Q1r (X8 (X0:VP _ _ (.int 0)) Xa)):VP _ _ ((eLi Q0) ([0]))) (X8 (X0:VP _ _ (.bool true)) Xa))):VP _ _ ((eP2 (eLi Q0) Qg) ([0],true))) Xa))) (fun r22=>g2x (Q4a (gP2 (gLi gI) gB) _ _))) (fun _=>rfl)) (fun _=>rfl) (fun r22=>(Z3 (X9 (δ':=[.scr script,sDk b13.1.2.2,.fz (Q0 x2),.fz (Q2 b13.2),.no,.no]) (Wy (X0:VP _ _ (.bool false)) rfl)))) (fun r22=>(Q0Y (Q47 (v:=(Qr b13.1.2.2)) rfl))))))))))))) (fun _=>⟨_,rfl,rfl⟩) (fun s1=>(X9 (δ':=[.scr script,sDk s1,.no,.no,.no,.no]) (Wy (X0:VP _ _ (.bool true)) rfl))))))))
end K06
namespace K06
open PySem PySem.Spec PyProof.Rows L2 Z
variable {ι τ σ ρ:Type}
abbrev St:=Int × Int × List Int
structure WF (st:St):Prop where
 h1:2 ≤ st.1
 h2:st.1 ≤ 8
 b1:3 ≤ st.2.1
 b2:st.2.1 ≤ 12
 n:(st.2.2.length:Int) = 7 * st.1 + 5 * st.2.1 + 82
end K06
namespace K06
open PySem PySem.Spec PyProof.Rows L2 Z
variable {ι τ σ ρ:Type}
open TL
theorem Qbf {f:ι → Option τ} {xs:List ι} (g:ι → τ) (hf:∀ x ∈ xs,f x = some (g x)):mapM f xs = some (xs.map g):=by
 obtain ⟨a,e,h⟩:=Q8U (P:=fun ys=>ys = xs.map g) g hf rfl
 rw [e,h]
theorem Q7X {xs:List ι} {o:Option τ} (h:xs.length ≤ 1000000):Kt xs o = o:=if_pos (Jq h Q6M)
theorem Qak (z:Str) (lo hi:Option Int):tl (cutS z lo hi) = Kd (tl z) lo hi:=rfl
theorem Q7H {x y:Str}:x = y ↔ tl x = tl y:=⟨fun h=>h ▸ rfl,ext_tl⟩
def okc (c:Nat):Prop:=c = 97 ∨ c = 98 ∨ c = 32 ∨ c = 46 ∨ c = 126 ∨ c = 48
theorem QaE {c:Nat} (h:okc c):inD (.str ⟨#[c]⟩) (.str ("0123456789":Str)) = some (decide (c = 48)):=by
 rcases h with rfl | rfl | rfl | rfl | rfl | rfl <;> decide +kernel
theorem QaR {w:Str} (h:∀ c ∈ tl w,okc c) (l:w.length ≤ 40):∃ r,V4 w = some r ∧ ∀ e,r = .inl e → e = ("NoText":Str):=by
 have sb:(100:Nat) ≤ sizeLine:=by decide
 have no:∀ e:Str,(Qr ("NoText":Str):Str ⊕ Int) = .inl e → e = ("NoText":Str):=fun e q=>by cases q; rfl
 unfold V4
 have c1:Q4V w none (some 1) = some (cutS w none (some 1)):=if_pos (by omega)
 have ne:¬ cutS w none (some 1) = ("-":Str):=fun q=>by
  have q:=Q7H.mp q
  rw [Qak,Qab (by decide)] at q
  have q:(tl w).take 1 = [45]:=q
  have m:45 ∈ tl w:=List.mem_of_mem_take (by rw [q]; simp)
  have:=h 45 m
  unfold okc at this
  omega
 rw [c1,Q1,decide_eq_false ne,if_neg (by simp),Q1]
 have ls:Q4j w = some (w.length:Int):=if_pos (by omega)
 rw [ls,Q1]
 have mm:mapM (fun x7=>(inD (Q2 x7) (Q2 ("0123456789":Str)))) (chN w) = some ((chN w).map fun x=>decide (x = ("0":Str))):=Qbf _ fun d hd=>by
  obtain ⟨c,hc,rfl⟩:=Jx.mp hd
  rw [QaE (h c hc)]
  congr 1
  rw [decide_eq_decide,Q7H]
  show c = 48 ↔ [c] = [48]
  simp
 have lc:(chN w).length ≤ 1000000:=by
  unfold chN
  rw [Q3]
  have:w.cps.toList.length = w.length:=Array.length_toList
  omega
 by_cases q1:1 ≤ w.length
 ·rw [decide_eq_true (show (1:Int) ≤ (w.length:Int) by omega),decide_eq_true (show (w.length:Int) ≤ 40 by omega),if_neg (by simp),mm,Q7X lc,Qx,Q1]
  cases al:((chN w).map fun x=>decide (x = ("0":Str))).all id
  ·rw [if_pos (by simp)]
   exact ⟨_,rfl,no⟩
  ·rw [if_neg (by simp)]
   cases q:tl w with
   | nil =>
    rw [len_tl,q] at q1
    exact absurd q1 (by decide)
   | cons a t =>
    have si:sIx w 0 = some ⟨#[a]⟩:=by
     unfold sIx
     rw [if_pos (by omega)]
     have:w.cps.toList = a :: t:=q
     rw [this]
     obtain ⟨c,ec⟩:=Q4m (a :: t) 0 (by omega) (by simp only [Qu]; omega)
     rw [ec]
     rfl
    have a0:(⟨#[a]⟩:Str) = ("0":Str):=by
     have m:(⟨#[a]⟩:Str) ∈ chN w:=Jx.mpr ⟨a,by show a ∈ tl w; rw [q]; exact Qe ..,rfl⟩
     have:=Qh.mp al _ (Jx.mpr ⟨_,m,rfl⟩)
     exact of_decide_eq_true this
    rw [si,Q1,decide_eq_true a0,if_pos rfl,Q1]
    by_cases w0:w = ("0":Str)
    ·rw [decide_eq_true w0,if_neg (by simp),w0]
     have i0:Q4q ("0":Str) = some 0:=by decide +kernel
     rw [i0]
     exact ⟨_,rfl,fun e z=>nomatch z⟩
    ·rw [decide_eq_false w0,if_pos (by simp)]
     exact ⟨_,rfl,no⟩
 ·rw [decide_eq_false (show ¬ (1:Int) ≤ (w.length:Int) by omega),Bool.false_and,if_pos (by simp),Q1,if_pos rfl]
  exact ⟨_,rfl,no⟩
theorem Q3t {f:ι → Option (Str ⊕ τ)}:∀ xs:List ι,(∀ x ∈ xs,∃ r,f x = some r ∧ ∀ e,r = .inl e → e = ("NoText":Str)) → ∃ r,Q3E f xs = some r ∧ (∀ e,r = .inl e → e = ("NoText":Str)) ∧ ∀ ys,r = .inr ys → ys.length = xs.length
 | [],_=>⟨.inr [],rfl,fun e z=>(nomatch z),fun ys z=>by cases z; rfl⟩
 | x :: xs,h=>by
  obtain ⟨r,er,hr⟩:=h x (Qe ..)
  unfold Q3E
  rw [er,Q1]
  cases r with
  | inl e=>exact ⟨.inl e,rfl,fun e2 z=>by cases z; exact hr e rfl,fun ys z=>nomatch z⟩
  | inr y =>
   obtain ⟨q,eq,h1,h2⟩:=Q3t xs fun z hz=>h z (Qb _ hz)
   rw [Sum.elim_inr,eq]
   cases q with
   | inl e=>exact ⟨.inl e,rfl,fun e2 z=>by cases z; exact h1 e rfl,fun ys z=>nomatch z⟩
   | inr ys=>exact ⟨.inr (y :: ys),rfl,fun e z=>(nomatch z),fun zs z=>by cases z; rw [Qu,Qu,h2 ys rfl]⟩
theorem Q1o (s:Nat):∀ (l acc:List Nat),∀ w ∈ spl [s] 0 acc l,(∀ c ∈ w,c ∈ acc ∨ c ∈ l) ∧ w.length ≤ acc.length + l.length
 | [],acc,w,hw=>by
  rw [spl_nil,Qt] at hw
  subst hw
  exact ⟨fun c hc=>.inl hc,by omega⟩
 | a :: l,acc,w,hw=>by
  cases h:pre [s] (a :: l) with
  | true =>
   rw [spl_hit h] at hw
   rcases Ql.mp hw with rfl | hw
   ·exact ⟨fun c hc=>.inl hc,by omega⟩
   ·obtain ⟨h1,h2⟩:=Q1o s l [] w hw
    refine ⟨fun c hc=>?_,by rw [Qu]; rw [List.length_nil] at h2; omega⟩
    rcases h1 c hc with z | z
    ·cases z
    ·exact .inr (Qb _ z)
  | false =>
   rw [spl_miss h] at hw
   obtain ⟨h1,h2⟩:=Q1o s l (acc ++ [a]) w hw
   rw [Qc,List.length_singleton] at h2
   refine ⟨fun c hc=>?_,by rw [Qu]; omega⟩
   rcases h1 c hc with z | z
   ·rcases Qj.mp z with z | z
    ·exact .inl z
    ·rw [Qt] at z
     exact .inr (by rw [z]; exact Qe ..)
   ·exact .inr (Qb _ z)
theorem Q5m (s:Nat):∀ (l acc:List Nat),s ∉ l → spl [s] 0 acc l = [acc ++ l]
 | [],acc,_=>by rw [spl_nil,Qz]
 | a :: l,acc,h=>by
  rw [Ql,not_or] at h
  rw [spl_miss (pre_of_head [] l fun z=>h.1 z.symm),Q5m s l _ h.2,List.append_assoc]
  rfl
theorem Q8M {t:Str} (h:∀ c ∈ tl t,okc c) (l:t.length ≤ 40):Ys t = some (.inl ("NoText":Str)):=by
 have sb:(100:Nat) ≤ sizeLine:=by decide
 have e1:Q2I t ("\n":Str) = some [t]:=by
  unfold Q2I
  rw [if_pos ⟨by decide,by omega⟩]
  congr 1
  refine map_tl_inj ?_
  rw [split_spl t ("\n":Str) (by decide) (kind_ok (by decide +kernel))]
  show spl [10] 0 [] (tl t) = _
  rw [Q5m 10 (tl t) [] fun z=>by have:=h 10 z; unfold okc at this; omega]
  rfl
 have key:∀ x ∈ [t],∃ r,(((((Q2I x (" ":Str))).bind fun v3=>(Kt v3 (Q3E (fun x4=>(V4 x4)) v3)).map (Sum.map (fun z9=>(v3,z9)) (fun z10=>(v3,z10))))).map (Sum.map (fun e8=>(e8.2:Str)) (fun r7=>r7.2)):Option (Str ⊕ List Int)) = some r ∧ ∀ e,r = .inl e → e = ("NoText":Str):=fun x hx=>by
  rw [Qt] at hx
  subst hx
  have e2:Q2I x (" ":Str) = some (Txt.split x (" ":Str)):=if_pos ⟨by decide,by omega⟩
  have sw:(Txt.split x (" ":Str)).map tl = spl [32] 0 [] (tl x):=split_spl x (" ":Str) (by decide) (kind_ok (by decide +kernel))
  have sl:=PyProof.Rows.split_le x (" ":Str)
  obtain ⟨r,er,h1,_⟩:=Q3t (f:=fun x4=>V4 x4) (Txt.split x (" ":Str)) fun w hw=>by
   obtain ⟨g1,g2⟩:=Q1o 32 (tl x) [] (tl w) (by rw [← sw]; exact Jx.mpr ⟨w,hw,rfl⟩)
   refine QaR (fun c hc=>?_) ?_
   ·rcases g1 c hc with z | z
    ·cases z
    ·exact h c z
   ·rw [len_tl]
    rw [List.length_nil,← len_tl x] at g2
    omega
  rw [e2,Q1,Q7X (by omega),er]
  cases r with
  | inl e=>exact ⟨_,rfl,fun e2 z=>by cases z; exact h1 e rfl⟩
  | inr ys=>exact ⟨_,rfl,fun e2 z=>nomatch z⟩
 obtain ⟨r,er,h1,h2⟩:=Q3t [t] key
 unfold Ys
 rw [if_neg (by simp),e1,Q1,Q7X (by simp),er]
 cases r with
 | inl e =>
  show some (Qr e) = _
  rw [h1 e rfl]
 | inr ys =>
  have ly:ys.length = 1:=h2 ys rfl
  rw [Qx,Sum.map_inr,Q1,Sum.elim_inr]
  dsimp only
  have n5:decide (Q4k ys = 5) = false:=decide_eq_false (by unfold Q4k; omega)
  rw [n5]
  rfl
theorem Yk {n:Int} {t e:Str} (h:Zv n t = some (.inl e)):Vl n t = ((if exN.contains e && Xf e "StoreError" then Q5R ([(Xf e "NoText"),(Xf e "Unsound"),(Xf e "NoPath"),(Xf e "NoWorths")]) fun some_7=>(Q23 some_7 ([(Xf e "NoName"),(Xf e "Ring"),(Xf e "Taken"),(Xf e "NotEmpty")])).bind fun v8=>(Q23 v8 ([(Xf e "Full"),(Xf e "NoPlace"),(Xf e "NoBack"),(Xf e "NoRow")])).bind fun v10=>((Kt (rngK 12) (Q3I (fun x12=>(atI v10 x12)) (fun x12=>(some x12)) (rngK 12)))).bind fun l14=>(some (l14,true)) else none)).bind fun s17=>(some (s17.1,s17.2)):=by
 unfold Vl
 rw [h]
 rfl
theorem Q94 (t:Str) {n:Int} (n0:0 ≤ n) (n1:n < 13):∃ r,Vl n t = some (r,true) ∧ Q7v ([n]) (boI (decide (n < 12))) = some r:=by
 have:n = 0 ∨ n = 1 ∨ n = 2 ∨ n = 3 ∨ n = 4 ∨ n = 5 ∨ n = 6 ∨ n = 7 ∨ n = 8 ∨ n = 9 ∨ n = 10 ∨ n = 11 ∨ n = 12:=by omega
 rcases this with rfl | rfl | rfl | rfl | rfl | rfl | rfl | rfl | rfl | rfl | rfl | rfl | rfl
 ·exact ⟨[0],(Yk (e:=("NoText":Str)) rfl).trans (by decide +kernel),by decide +kernel⟩
 ·exact ⟨[1],(Yk (e:=("Unsound":Str)) rfl).trans (by decide +kernel),by decide +kernel⟩
 ·exact ⟨[2],(Yk (e:=("NoPath":Str)) rfl).trans (by decide +kernel),by decide +kernel⟩
 ·exact ⟨[3],(Yk (e:=("NoWorths":Str)) rfl).trans (by decide +kernel),by decide +kernel⟩
 ·exact ⟨[4],(Yk (e:=("NoName":Str)) rfl).trans (by decide +kernel),by decide +kernel⟩
 ·exact ⟨[5],(Yk (e:=("Ring":Str)) rfl).trans (by decide +kernel),by decide +kernel⟩
 ·exact ⟨[6],(Yk (e:=("Taken":Str)) rfl).trans (by decide +kernel),by decide +kernel⟩
 ·exact ⟨[7],(Yk (e:=("NotEmpty":Str)) rfl).trans (by decide +kernel),by decide +kernel⟩
 ·exact ⟨[8],(Yk (e:=("Full":Str)) rfl).trans (by decide +kernel),by decide +kernel⟩
 ·exact ⟨[9],(Yk (e:=("NoPlace":Str)) rfl).trans (by decide +kernel),by decide +kernel⟩
 ·exact ⟨[10],(Yk (e:=("NoBack":Str)) rfl).trans (by decide +kernel),by decide +kernel⟩
 ·exact ⟨[11],(Yk (e:=("NoRow":Str)) rfl).trans (by decide +kernel),by decide +kernel⟩
 ·exact ⟨[],(Yk (e:=("StoreError":Str)) rfl).trans (by decide +kernel),by decide +kernel⟩
theorem Q6u {t:Str} (h:Ys t = some (.inl ("NoText":Str))):Vl 13 t = some ([0],true):=by
 refine (Yk (e:=("NoText":Str)) ?_).trans (by decide +kernel)
 have:Zv 13 t = ((Ys t)).bind (Jm (fun e2=>some (Qr e2)) fun r1=>(some (Qr ("StoreError":Str)))):=rfl
 rw [this,h]
 rfl
theorem Qau {ys:List Str} (h:∀ y ∈ ys,∃ c,okc c ∧ y = ⟨#[c]⟩):(∀ c ∈ tl (Txt.join ("":Str) ys),okc c) ∧ (Txt.join ("":Str) ys).length ≤ ys.length:=by
 have k:∀ zs:List (List Nat),(∀ z ∈ zs,∃ c,okc c ∧ z = [c]) → (∀ c ∈ joinL [] zs,okc c) ∧ (joinL [] zs).length ≤ zs.length:=fun zs=>by
  induction zs with
  | nil=>exact fun _=>⟨fun c hc=>(nomatch hc),by decide⟩
  | cons z zs ih =>
   intro hz
   obtain ⟨c,hc,rfl⟩:=hz z (Qe ..)
   obtain ⟨h1,h2⟩:=ih fun y hy=>hz y (Qb _ hy)
   cases zs with
   | nil=>exact ⟨fun d hd=>by have hd:d ∈ [c]:=hd; rw [Qt] at hd; rw [hd]; exact hc,by simp [joinL]⟩
   | cons w zs =>
    have e:joinL [] ([c] :: w :: zs) = c :: joinL [] (w :: zs):=rfl
    rw [e]
    refine ⟨fun d hd=>?_,by rw [Qu,Qu]; omega⟩
    rcases Ql.mp hd with rfl | hd
    ·exact hc
    ·exact h1 d hd
 have e:tl (Txt.join ("":Str) ys) = joinL [] (ys.map tl):=by
  rw [join_eq,tl_join]
  rfl
 obtain ⟨h1,h2⟩:=k (ys.map tl) fun z hz=>by
  obtain ⟨y,hy,rfl⟩:=Jx.mp hz
  obtain ⟨c,hc,rfl⟩:=h y hy
  exact ⟨c,hc,rfl⟩
 rw [len_tl,e]
 rw [Q3] at h2
 exact ⟨h1,h2⟩
theorem Q7W {k:Dk} {P:Str × Dk → Prop} (hk:k.cs.length ≤ 63) (h:∀ c k',okc c → k'.cs.length ≤ 63 → P (⟨#[c]⟩,k')):Wt (V2 k ("ab .~0":Str)) P:=by
 have e:Q4j ("ab .~0":Str) = some 6:=by decide +kernel
 unfold V2
 rw [e]
 refine V9 (V9 (V9 (Kj (Ky (Q5d hk (by omega) (by omega) fun r k' r0 r1 hk'=>?_)))))
 dsimp only
 have cs:("ab .~0":Str).cps.toList = [97,98,32,46,126,48]:=by decide +kernel
 have si:Wt (sIx ("ab .~0":Str) r) fun z=>∃ c,okc c ∧ z = ⟨#[c]⟩:=by
  unfold sIx
  rw [if_pos (by decide +kernel),cs]
  refine Ky (Qbo r0 (by simp; omega) fun c hc=>⟨c,?_,rfl⟩)
  simp only [Ql,Ji,or_false] at hc
  exact hc
 obtain ⟨z,ez,c,hc,rfl⟩:=si
 rw [ez]
 exact Ky (Kj (Kj (h c k' hc hk')))
theorem QaB (ns:List Int):Q5g ns = some true:=by
 have hk:(Q31 ns).cs.length ≤ 63:=by
  show ((ns.take 63).reverse).length ≤ 63
  rw [List.length_reverse,List.length_take]
  omega
 have main:Wt (Q5g ns) fun r=>r = true:=by
  unfold Q5g
  refine V9 (Q3x (fun k:Dk=>k.cs.length ≤ 63) hk (fun y hy k hk=>?_) fun k hk=>Kj rfl)
  refine V9 (V9 (V9 (V9 (Q5d hk (by omega) (by omega) fun n k1 n0 n1 hk1=>Ky (Q8Z (by omega) (by omega) ?_)))))
  dsimp only
  refine Ky (Q99 (by rw [Q3W]; omega) (Q53 (fun z:Str=>∃ c,okc c ∧ z = ⟨#[c]⟩) (fun _ (s:Dk)=>s.cs.length ≤ 63) hk1 (fun x xs s hs=>?_) (fun ys s hl hys hs=>?_)))
  ·exact Ky (Q7W hs fun c k' hc hk'=>⟨⟨c,hc,rfl⟩,hk'⟩)
  rw [Q3W] at hl
  obtain ⟨j1,j2⟩:=Qau hys
  have jl:Q57 ("":Str) ys = some (Txt.join ("":Str) ys):=by
   refine if_pos ?_
   have:∀ zs:List Str,(∀ z ∈ zs,∃ c,okc c ∧ z = (⟨#[c]⟩:Str)) → (zs.map (·.length)).sum = zs.length:=fun zs=>by
    induction zs with
    | nil=>exact fun _=>rfl
    | cons z zs ih =>
     intro hz
     obtain ⟨c,_,rfl⟩:=hz z (Qe ..)
     rw [Qq,List.sum_cons,ih fun y hy=>hz y (Qb _ hy),Qu]
     have:(⟨#[c]⟩:Str).length = 1:=rfl
     omega
   rw [this ys hys]
   have:("":Str).length = 0:=rfl
   rw [this]
   omega
  dsimp only
  rw [jl]
  refine Ky (Kj ?_)
  dsimp only
  generalize Txt.join ("":Str) ys = t at j1 j2
  refine V9 (Q3x (fun _:Unit=>True) trivial (fun x hx _ _=>?_) fun _ _=>?_)
  ·have:=Q7N hx
   obtain ⟨r,e1,e2⟩:=Q94 t (n:=x) (by omega) (by omega)
   rw [e1,Q1,e2,Qx,Q1]
   dsimp only
   rw [if_neg (by simp)]
   exact Kj ⟨(),rfl,trivial⟩
  ·rw [Sum.elim_inl,Q6u (Q8M j1 (by omega)),Q1,if_neg (by simp)]
   exact Kj ⟨_,rfl,hs⟩
 obtain ⟨v,e,q⟩:=main
 rw [e,q]
end K06
namespace K06
open PySem PySem.Spec PyProof.Rows L2 Z
variable {ι τ σ ρ:Type}
theorem law_true:∀ ns:List Int,ns.length ≤ 63 → ∃ outs,φ_law [.scr ns] = some (.bool true,outs):=fun ns _=>⟨_,Qbk ns true (QaB ns)⟩
end K06
namespace K06
open PySem PySem.Spec PyProof.Rows L2 Z
theorem QaK {l:PySem.W.OpenLaw} {w:World} {K:PySem.W.Frag} {h:Heap} {mg:Str → Option Value} {fa:Addr} (X:K.In h) (G:h.Ns mainGlobals mg) (hfa:mg "law" = some (.ref fa))
  {f15:Addr} {od15 an15:Option Addr} {sl15:Array (Option Value)} {oc15 kV15 dc15 pm15 cd15 ct15:Value}
  {u0:Value}
  {u1:Value}
  {u2:Value}
  {u3:Value}
  {u4:Value}
  {u5:Value}
  {u6:Value}
  {u7:Value}
  {u8:Value}
  (F0:Vh K "is_number" "is_number" Zt)
  (F1:Vh K "is_shape" "is_shape" Q0o)
  (F2:Vh K "many_cells" "many_cells" Km)
  (F3:Vh K "is_store" "is_store" Kh)
  (F4:Vh K "map_first" "map_first" Zp)
  (F5:Vh K "block_first" "block_first" Wv)
  (F6:Vh K "log_first" "log_first" Zq)
  (F7:Vh K "lines_of" "lines_of" Q0n)
  (F8:Vh K "number_in" "number_in" Wm)
  (F9:Vh K "read_store" "read_store" Yt)
  (F10:Vh K "_law_deck" "_law_deck" Ze)
  (F11:Vh K "_law_draw" "_law_draw" Zm)
  (F12:Vh K "_law_pick" "_law_pick" Z4)
  (F13:Vh K "_law_raise" "_law_raise" Ks)
  (F14:Vh K "_law_heard" "_law_heard" W7)
  (a15:PySem.W.nsIn K mainGlobals "law" = some (some (.ref f15))) (l15:K.lookup f15 = some ⟨oc15,od15,.func (PySem.W.fnOf "law" "law" (defArgs Q0f) (defBody Q0f) (defScope Q0f) .none kV15 dc15 pm15 an15 cd15 ct15),sl15⟩) (c15:PySem.W.codeIn K cd15 "law" = true) (k15:PySem.W.keepIn K (.ref f15) = true)
  (b0:PySem.W.nsIn K mainGlobals "BLOCK_CELLS" = some (some u0)) (r0:Q2L K u0 (.int 4))
  (b1:PySem.W.nsIn K mainGlobals "FIGURES" = some (some u1)) (r1:Q2L K u1 (.str "0123456789"))
  (b2:PySem.W.nsIn K mainGlobals "HEAD_CELLS" = some (some u2)) (r2:Q2L K u2 (.int 7))
  (b3:PySem.W.nsIn K mainGlobals "LEAST_BLOCKS" = some (some u3)) (r3:Q2L K u3 (.int 3))
  (b4:PySem.W.nsIn K mainGlobals "LEAST_HEADS" = some (some u4)) (r4:Q2L K u4 (.int 2))
  (b5:PySem.W.nsIn K mainGlobals "LOG_CELLS" = some (some u5)) (r5:Q2L K u5 (.int 82))
  (b6:PySem.W.nsIn K mainGlobals "MOST_BLOCKS" = some (some u6)) (r6:Q2L K u6 (.int 12))
  (b7:PySem.W.nsIn K mainGlobals "MOST_FIGURES" = some (some u7)) (r7:Q2L K u7 (.int 40))
  (b8:PySem.W.nsIn K mainGlobals "MOST_HEADS" = some (some u8)) (r8:Q2L K u8 (.int 8))
  (z0:PySem.W.nsIn K mainGlobals "ValueError" = some none)
  (z1:PySem.W.nsIn K mainGlobals "all" = some none)
  (z2:PySem.W.nsIn K mainGlobals "bool" = some none)
  (z3:PySem.W.nsIn K mainGlobals "int" = some none)
  (z4:PySem.W.nsIn K mainGlobals "isinstance" = some none)
  (z5:PySem.W.nsIn K mainGlobals "len" = some none)
  (z6:PySem.W.nsIn K mainGlobals "list" = some none)
  (z7:PySem.W.nsIn K mainGlobals "range" = some none)
  (z8:PySem.W.nsIn K mainGlobals "reversed" = some none)
  (z9:PySem.W.nsIn K mainGlobals "str" = some none)
  (z10:PySem.W.nsIn K mainGlobals "sum" = some none)
  (z11:PySem.W.nsIn K mainGlobals "tuple" = some none)
  (z12:PySem.W.nsIn K mainGlobals "zip" = some none)
  (ex:QaS K exN = true)
  : ∃ fd:FuncData,(∀ (s:Shared) (v:Value),BindsTo s fd ⟨[v],[]⟩ [("_law_script",v)]) ∧ ∀ base:Heap,K.In base → base.Ns mainGlobals mg → FnG l.prog w K mg base CX0 8 fa fd ["_law_script"] (spF K 1 .n φ_law):=by
 cases hfa.symm.trans (PySem.W.mg_of X G a15)
 have T:Txt K mg:={ c_BLOCK_CELLS:=⟨_,_,PySem.W.mg_of X G b0,gcs r0⟩,c_FIGURES:=⟨_,_,PySem.W.mg_of X G b1,gcs r1⟩,c_HEAD_CELLS:=⟨_,_,PySem.W.mg_of X G b2,gcs r2⟩,c_LEAST_BLOCKS:=⟨_,_,PySem.W.mg_of X G b3,gcs r3⟩,c_LEAST_HEADS:=⟨_,_,PySem.W.mg_of X G b4,gcs r4⟩,c_LOG_CELLS:=⟨_,_,PySem.W.mg_of X G b5,gcs r5⟩,c_MOST_BLOCKS:=⟨_,_,PySem.W.mg_of X G b6,gcs r6⟩,c_MOST_FIGURES:=⟨_,_,PySem.W.mg_of X G b7,gcs r7⟩,c_MOST_HEADS:=⟨_,_,PySem.W.mg_of X G b8,gcs r8⟩,m_ValueError:=PySem.W.mg_none_of X G z0,m_all:=PySem.W.mg_none_of X G z1,m_bool:=PySem.W.mg_none_of X G z2,m_int:=PySem.W.mg_none_of X G z3,m_isinstance:=PySem.W.mg_none_of X G z4,m_len:=PySem.W.mg_none_of X G z5,m_list:=PySem.W.mg_none_of X G z6,m_range:=PySem.W.mg_none_of X G z7,m_reversed:=PySem.W.mg_none_of X G z8,m_str:=PySem.W.mg_none_of X G z9,m_sum:=PySem.W.mg_none_of X G z10,m_tuple:=PySem.W.mg_none_of X G z11,m_zip:=PySem.W.mg_none_of X G z12,ex:=⟨ex,fun c C e=>PySem.W.mg_of X G e⟩ }
 refine ⟨PySem.W.fnOf "law" "law" (defArgs Q0f) (defBody Q0f) (defScope Q0f) .none kV15 dc15 pm15 an15 cd15 ct15,fun s v=>.of_eq rfl,fun base _ _=>?_⟩
 have h_is_number:=Ye F0 X G (Q3s (P:=l.prog) (w:=w) (base:=base) T )
 have h_is_shape:=Ye F1 X G (Q3X (P:=l.prog) (w:=w) (base:=base) T h_is_number)
 have h_many_cells:=Ye F2 X G (Q2K (P:=l.prog) (w:=w) (base:=base) T )
 have h_is_store:=Ye F3 X G (Q4i (P:=l.prog) (w:=w) (base:=base) T h_is_number h_is_shape h_many_cells)
 have h_map_first:=Ye F4 X G (Q3P (P:=l.prog) (w:=w) (base:=base) T )
 have h_block_first:=Ye F5 X G (Q1Z (P:=l.prog) (w:=w) (base:=base) T h_map_first)
 have h_log_first:=Ye F6 X G (Q3M (P:=l.prog) (w:=w) (base:=base) T h_block_first)
 have h_lines_of:=Ye F7 X G (Q4u (P:=l.prog) (w:=w) (base:=base) T h_block_first h_log_first h_many_cells h_map_first)
 have h_number_in:=Ye F8 X G (Q3z (P:=l.prog) (w:=w) (base:=base) T )
 have h_read_store:=Ye F9 X G (Q2G (P:=l.prog) (w:=w) (base:=base) T h_is_shape h_is_store h_lines_of h_number_in)
 have h__law_deck:=Ye F10 X G (Q3e (P:=l.prog) (w:=w) (base:=base) T )
 have h__law_draw:=Ye F11 X G (Q3H (P:=l.prog) (w:=w) (base:=base) T )
 have h__law_pick:=Ye F12 X G (Q3C (P:=l.prog) (w:=w) (base:=base) T h__law_draw)
 have h__law_raise:=Ye F13 X G (Q2F (P:=l.prog) (w:=w) (base:=base) T h_read_store)
 have h__law_heard:=Ye F14 X G (Q2B (P:=l.prog) (w:=w) (base:=base) T h__law_raise)
 exact Qap T h__law_deck h__law_draw h__law_heard h__law_pick (fun_mk (st:=Q0f) l15 c15 k15)
theorem all_of {l:PySem.W.OpenLaw} {w:World} {K:PySem.W.Frag} {h:Heap} {mg:Str → Option Value} {fa:Addr} (X:K.In h) (G:h.Ns mainGlobals mg) (hla:mg "law" = some (.ref fa)) (c:Vg Qaj QaU QaV Q8I QaM w K)
  : ∃ fd:FuncData,(∀ (s:Shared) (v:Value),BindsTo s fd ⟨[v],[]⟩ [("_law_script",v)]) ∧ ∀ base:Heap,K.In base → base.Ns mainGlobals mg → FnG l.prog w K mg base CX0 8 fa fd ["_law_script"] (spF K 1 .n φ_law):=by
 obtain ⟨_,_,_,_,_,_,_,_,_,l,k,kp⟩:=c.law 15
 obtain ⟨_,b0,r0⟩:=c.con 0
 obtain ⟨_,b1,r1⟩:=c.con 1
 obtain ⟨_,b2,r2⟩:=c.con 2
 obtain ⟨_,b3,r3⟩:=c.con 3
 obtain ⟨_,b4,r4⟩:=c.con 4
 obtain ⟨_,b5,r5⟩:=c.con 5
 obtain ⟨_,b6,r6⟩:=c.con 6
 obtain ⟨_,b7,r7⟩:=c.con 7
 obtain ⟨_,b8,r8⟩:=c.con 8
 have e0:Q8I K = true:=c.more
 exact QaK X G hla (c.fd 0 0) (c.fd 1 1) (c.fd 2 2) (c.fd 3 3) (c.fd 4 4) (c.fd 5 5) (c.fd 6 6) (c.fd 7 7) (c.fd 8 8) (c.fd 9 9) (c.fd 10 10) (c.fd 11 11) (c.fd 12 12) (c.fd 13 13) (c.fd 14 14) (c.gl 15) l k kp b0 r0 b1 r1 b2 r2 b3 r3 b4 r4 b5 r5 b6 r6 b7 r7 b8 r8 (c.fr 16) (c.fr 17) (c.fr 18) (c.fr 19) (c.fr 20) (c.fr 21) (c.fr 22) (c.fr 23) (c.fr 24) (c.fr 25) (c.fr 26) (c.fr 27) (c.fr 28) e0
end K06
open PySem PySem.W PySem.Calls PyProof.Rows
set_option maxHeartbeats 0 in
theorem PySem.Challenge.cw_soundstore_k06_refusals_made_holds : PySem.Challenge.rw_soundstore_k06_refusals_made.Holds := by
 w_on; refine K06.hd_o fun said => ?_
 refine HandSHeadRun.head_any (r := K06.hdR) (q := K06.hdQ) (H := K06.hdH) (ob := K06.hdO) (M := 12000) (loose := K06.hdNm) (d := HandSHeadRun.topDef K06.hdR.prog 43) (kwd := []) K06.hdO_eq
  K06.hd_e K06.hd_f K06.run_w K06.hd_d K06.hd_p K06.hd_k K06.hd_1 said K06.hd_3 K06.hd_4 ?hw ?hc
 case hw => w_witness2
 case hc =>
  refine Z.zwalkE (l := PySem.Challenge.rw_soundstore_k06_refusals_made) (n := 63) (k := 8) (x := "_law_script") (φ := K06.φ_law) rfl (by decide) (by kernel_rfl) ⟨rfl, by decide, by decide⟩ ?F K06.law_true
  intro w mg fa h Y G hmg0
  obtain ⟨K, KX, c⟩ := Y
  have hmg : mg ("law" : PySem.Str) = some (.ref fa) := by
   have e : (HandSHeadRun.topDef K06.hdR.prog 43).name = ("law" : PySem.Str) := by kernel_rfl
   rw [← e]
   exact hmg0
  exact ⟨K, KX, K06.all_of KX G hmg c⟩

