import PyProof.Rows.All
import Wide.All
import OpenK.AllK
import Wide.FinOn
import KE.KStateDown
import HandS.Words
import HandS.Head2
import HandS.HeadHook3
import PySem.Challenge.RW_soundstore_k04_written_and_read
import HandS.ForMost
import HandS.Iter
import HandS.TupAny
import HandS.TupMul
import HandS.TupLe
import HandS.Deep
import HandS.IsInst
import KE.LtData
import KE.SortData
import PyProof.RowDictHeap
import PyProof.ReprRoads
import KE.DataEq
import HandS.RaiseMore
import HandS.Strs
import HandS.Rev
import HandS.Conv
import HandS.Style
import HandS.More
import KE.GoesMore
import KE.GoesEnum
import HandS.SetFor
import KE.KDictPairs
import HandS.Flow
import HandS.NoneIn
import HandS.TupSets
import KE.KeyNested
import KE.KDictCopyH
import KE.KDictSum
import KE.KTupSum
import PyProof.TupleIter
import HandS.Zip
import PyProof.SumAny
import PyProof.ListOps
import PyProof.FactsAll.subtypes_4
import HandS.ExcValue
import PyProof.Rows.IntBool
import PyProof.NeKinds
import HandS.WordsExc
import HandS.ExcIs
import HandS.TryOnly
import HandS.WrittenGet
import HandS.HotCalls
import HandS.Text
set_option Elab.async false
set_option linter.all false
set_option maxRecDepth 1000000
set_option maxHeartbeats 4000000
open PySem.PyData renaming int → Q0, str → Q2, bool → Qg, depthAll → Qv, plainAll → Jc, list → Jd, eqv → Jh
open Option renaming bind_some → Q1, map_some → Qb, some → J4
open List renaming length_map → Q3, mem_cons_of_mem → Q4, mem_cons_self → Q5, mem_cons → Q7, replicate → Q8, mem_append → Q9, mem_append_left → Qa, getElem?_set_ne → Qc, length_cons → Qe, mem_append_right → Qf, getElem?_set_self → Qh, getElem?_eq_some_iff → Qi, mem_singleton → Qj, length_set → Qk, getElem?_eq_getElem → Ql, map_cons → Qm, not_mem_nil → Qn, getElem?_map → Qo, mem_map → Qp, all_eq_true → Qq, length_append → Qs, length_nil → Qu, getElem?_append_left → Qx, getElem?_eq_none → Qy, map_map → Qz, take_of_length_le → J6, append_nil → J7, length_take → Je, getD_eq_getElem?_getD → Jf, map_append → Jg, replicate_succ → Ji
open Bool renaming and_eq_true → Q6, false_eq_true → Qw, or_eq_true → J8
open Nat renaming lt_of_lt_of_le → Qd, le_trans → Qr, ne_of_gt → Qt, le_refl → J1, le_add_right → J2, add_lt_add_left → J3, ne_of_lt → J9, zero_le → Ja
open Int renaming eq_ofNat_of_zero_le → J5, negSucc → Jb
namespace Z
open PySem PySem.Spec PyProof.Rows L2
abbrev D:=PyData
mutual
def kRp (K:PySem.W.Frag):Nat → Value → Option (V × D)
 | 0,_=>none
 | n + 1,u=>match u with
  | .none=>some (.non,.none)
  | .bool b=>some (.bl b,.bool b)
  | .int i _=>some (.int i,.int i)
  | .str x _=>some (.str x,.str x)
  | .ref a=>match K.lookup a with
   | some ⟨.type "tuple",_,.seq its _,_⟩=>if its.size ≤ sizeLine then (Q8K K n its.toList).map fun p=>(.ref a,.tuple p.2) else none
   | _=>none
  | _=>none
def Q8K (K:PySem.W.Frag):Nat → List Value → Option (List V × List D)
 | 0,_=>none
 | n + 1,us=>match us with
  | []=>some ([],[])
  | u :: r=>match kRp K n u,Q8K K n r with
   | some p,some q=>some (p.1 :: q.1,p.2 :: q.2)
   | _,_=>none
end
def kDn (K:PySem.W.Frag):Value → Bool
 | .ref a=>match K.lookup a with
  | some ⟨.type "tuple",none,_,_⟩=>true
  | _=>false
 | _=>false
def Qe3 (c d:Str):Bool:=(c == d) || (d == "StoreError")
def QdS (K:PySem.W.Frag) (C:Addr):Bool:=PySem.W.excIn K C [.type "ValueError",.type "Exception",.type "BaseException",.type "object"] "ValueError.__new__" && PySem.W.keepIn K (.ref C) && (PySem.W.subIn K (.ref C) (.type "BaseException") == some true) && (match PySem.W.typeIn K (.ref C) with | some (.type t)=>t == "type" | _=>false)
 && (match PySem.W.findIn K (.ref C) "__getattribute__" with | some (some (.builtin t))=>t == "BaseException.__getattribute__" | _=>false) && (match PySem.W.findIn K (.ref C) "__getattr__" with | some none=>true | _=>false) && PySem.W.hasDictIn K C
 && (match PySem.W.findIn K (.ref C) "__class__" with | some (some (.builtin t))=>t == "object.__class__" | _=>false) && (match PySem.W.specialIn K (.builtin "object.__class__") "__get__" with | some (some (.builtin t))=>t == "getset_descriptor.__get__" | _=>false) && (PySem.W.takesIn K (.builtin "object.__class__") == some true) && (PySem.W.mroIn K C (.type "object") == some true) && (PySem.W.kitOne K (.ref C) (.type "ValueError") == some true)
def excB (K:PySem.W.Frag) (ns:List Str):Bool:=ns.all fun c=>match PySem.W.nsIn K mainGlobals c with
 | some (some (.ref C))=>QdS K C && ns.all fun d=>match PySem.W.nsIn K mainGlobals d with
  | some (some (.ref D))=>(PySem.W.kitOne K (.ref C) (.ref D) == some (Qe3 c d)) && (PySem.W.exmOne K (.ref C) (.ref D) == some (Qe3 c d))
  | _=>false
 | _=>false
open He
def QaF (K:PySem.W.Frag) (x:Str):Option D:=match PySem.W.nsIn K mainGlobals x with
 | some (some u)=>(kRp K 40 u).map (·.2)
 | _=>none
def QdE (o:Obj):List Addr:=He.refV o.cls ++ match o.data with
 | .seq its _=>its.toList.flatMap He.refV
 | .dict es _=>es.toList.flatMap fun e=>He.refV e.val
 | .func fd=>He.refV fd.code
 | .cls cd=>cd.ns :: cd.mro.flatMap He.refV
 | _=>[]
def rfZ (g:Addr → Option Obj) (as:List Addr):List Addr:=as.flatMap fun a=>match g a with
 | some o=>QdE o
 | none=>[]
def asZ (g:Addr → Option Obj):List Addr:=(fun r1:List Addr=>(fun r2:List Addr=>(fun r3:List Addr=>mainGlobals :: (r1 ++ (r2 ++ (r3 ++ rfZ g r3)))) (rfZ g r2)) (rfZ g r1)) (rfZ g [mainGlobals])
abbrev AlZ:Type:=(AlT × Bool) × List (Option D)
def QcH (fa:List Fa) (fn:List DefD) (ts:List He.Tab) (ex:PySem.W.Frag → Bool) (cs:List (Str × D)) (g:Addr → Option Obj):AlZ:=((obsT fa fn ts (frG g (asZ g)),ex (frG g (asZ g))),cs.map fun c=>QaF (frG g (asZ g)) c.1)
def valZ (fn:List DefD) (ts:List He.Tab) (cs:List (Str × D)) (w:World):AlZ:=((valT fn ts w,true),cs.map fun c=>some c.2)
structure Q0F (fa:List Fa) (fn:List DefD) (ts:List He.Tab) (ex:PySem.W.Frag → Bool) (cs:List (Str × D)) (w:World) (K:PySem.W.Frag):Prop where
 t:SaysT fa fn ts w K
 more:ex K = true
 cs:cs.map (fun c=>QaF K c.1) = cs.map fun c=>some c.2
def Qcg (fa:List Fa) (fn:List DefD) (ts:List He.Tab) (ex:PySem.W.Frag → Bool) (cs:List (Str × D)):PySem.W.Hook where
 α:=AlZ
 obs:=fun s=>QcH fa fn ts ex cs s.heap.get?
 val:=fun w=>valZ fn ts cs w
 says:=fun w h=>∃ K:PySem.W.Frag,K.In h ∧ Q0F fa fn ts ex cs w K
 of:=fun _ _ e=>⟨_,frG_in,⟨congrArg (fun z:AlZ=>z.1.1) e,congrArg (fun z:AlZ=>z.1.2) e,congrArg (fun z:AlZ=>z.2) e⟩⟩
 keeps:=fun _ _ _ ⟨K,hK,c⟩ k=>⟨K,PySem.W.Frag.In.keeps hK k,c⟩
theorem QbH {fa:List Fa} {fn:List DefD} {ts:List He.Tab} {ex:PySem.W.Frag → Bool} {cs:List (Str × D)} {g:Addr → Option Obj} {s:Shared} (h:∀ a,g a = s.heap.get? a):QcH fa fn ts ex cs g = (Qcg fa fn ts ex cs).obs s:=by
 have e:g = s.heap.get?:=funext h
 rw [e] <;> rfl
abbrev dt (x d:Str) (st:Stmt):DefD:=⟨(x,none),d,d,defArgs st,defBody st,defScope st,[],[]⟩
end Z
namespace Z
open PySem
end Z
namespace Z
open PySem
end Z
namespace Z
open PySem PySem.W PySem.Calls PyProof.Rows
open He (Fa DefD)
def QcR (r:OpenRow) (M:Nat) (w:World) {α:Type} (f:SharedT → α) (v:α):Prop:=∀ os:OsState,(HandSHeadRun.endF (HandSHeadRun.stepQ (HandSHeadRun.denQ HandSHeadRun.tabQ) r.prog w) M r.prog w os).map f = some v
theorem QcR.to {r:OpenRow} {M:Nat} {w:World} {α β:Type} {f:SharedT → α} {a:α} (p:QcR r M w f a) (k:SharedT → β) (b:β) (h:∀ s,f s = a → k s = b):QcR r M w k b:=fun os=>by
 have p:=p os
 cases e:HandSHeadRun.endF (HandSHeadRun.stepQ (HandSHeadRun.denQ HandSHeadRun.tabQ) r.prog w) M r.prog w os with
 | none=>rw [e] at p; cases p
 | some s =>
  rw [e] at p
  have p:f s = a:=J4.inj p
  show some (k s) = some b
  rw [h s p]
end Z
namespace K04
open PySem PySem.Spec PyProof.Rows L2 Z
def Yx (i:Nat):Stmt:=PySem.Challenge.pw_soundstore_k04_written_and_read.main.body.getD i (.Pass ⟨0,0,0,0⟩)
def Qe6:List He.Fa:=[.glo "is_number",.glo "is_shape",.glo "many_cells",.glo "is_store",.glo "map_first",.glo "block_first",.glo "log_first",.glo "lines_of",.glo "row_text",.glo "show_store",.glo "number_in",.glo "read_store",.glo "_law_deck",.glo "_law_draw",.glo "_law_pick",.glo "_law_shape",.glo "_law_needs",.glo "_law_left",.glo "_law_enter",.glo "_law_model",.glo "_law_given",.glo "_law_laid",.glo "_law_sound",.glo "_law_number",.glo "_law_any_store",.glo "_law_text",.glo "_law_is_so",.glo "law",.free "all",.free "bool",.free "enumerate",.free "int",.free "isinstance",.free "len",.free "list",.free "range",.free "repr",.free "reversed",.free "sorted",.free "str"]
def Qed:List He.Fa:=[.free "sum",.free "tuple",.free "zip"]
def Qd2:List He.Fa:=Qe6 ++ Qed
def QdH:List He.DefD:=[dt "is_number" "is_number" (Yx 12),dt "is_shape" "is_shape" (Yx 13),dt "many_cells" "many_cells" (Yx 14),dt "is_store" "is_store" (Yx 15),dt "map_first" "map_first" (Yx 17),dt "block_first" "block_first" (Yx 18),dt "log_first" "log_first" (Yx 19),dt "lines_of" "lines_of" (Yx 23),dt "row_text" "row_text" (Yx 24),dt "show_store" "show_store" (Yx 25),dt "number_in" "number_in" (Yx 26),dt "read_store" "read_store" (Yx 27),dt "_law_deck" "_law_deck" (Yx 29),dt "_law_draw" "_law_draw" (Yx 30),dt "_law_pick" "_law_pick" (Yx 31),dt "_law_shape" "_law_shape" (Yx 32),dt "_law_needs" "_law_needs" (Yx 33),dt "_law_left" "_law_left" (Yx 34),dt "_law_enter" "_law_enter" (Yx 35),dt "_law_model" "_law_model" (Yx 36),dt "_law_given" "_law_given" (Yx 37),dt "_law_laid" "_law_laid" (Yx 38),dt "_law_sound" "_law_sound" (Yx 39),dt "_law_number" "_law_number" (Yx 40),dt "_law_any_store" "_law_any_store" (Yx 41),dt "_law_text" "_law_text" (Yx 42),dt "_law_is_so" "_law_is_so" (Yx 43),dt "law" "law" (Yx 44)]
def Qd3:List He.DefD:=QdH
def QcZ:List He.Tab:=[]
def Qdi:List (Str × D):=[("BLOCK_CELLS",.int 4),("FIGURES",.str "0123456789"),("HEAD_CELLS",.int 7),("LEAST_BLOCKS",.int 3),("LEAST_HEADS",.int 2),("LOG_CELLS",.int 82),("MOST_BLOCKS",.int 12),("MOST_FIGURES",.int 40),("MOST_HEADS",.int 8)]
def Qd4 (K:PySem.W.Frag):Bool:=true
def Qee:List Str:=["__name__", "StoreError", "NoText", "LEAST_HEADS", "MOST_HEADS", "LEAST_BLOCKS", "MOST_BLOCKS", "HEAD_CELLS", "BLOCK_CELLS", "PAIRS", "LOG_CELLS", "is_number", "is_shape", "many_cells", "is_store", "map_first", "block_first", "log_first", "FIGURES", "MOST_FIGURES", "lines_of", "row_text", "show_store", "number_in"]
def QdX:List Str:=["read_store", "_law_deck", "_law_draw", "_law_pick", "_law_shape", "_law_needs", "_law_left", "_law_enter", "_law_model", "_law_given", "_law_laid", "_law_sound", "_law_number", "_law_any_store", "_law_text", "_law_is_so"]
def hdNm:List Str:=Qee ++ QdX
abbrev hdR:PySem.W.OpenRow:=PySem.W.OpenLaw.row PySem.Challenge.rw_soundstore_k04_written_and_read
abbrev hdQ:Program:=PySem.W.view hdR.prog [44]
abbrev hdH:PySem.W.Hook:=Qcg Qd2 Qd3 QcZ Qd4 Qdi
def hdO (s:PySem.W.SharedT):AlZ:=QcH Qd2 Qd3 QcZ Qd4 Qdi (HandSHeadRun.getT s)
theorem hdO_eq (s:PySem.W.SharedT):hdO s = hdH.obs s.abs:=QbH (HandSHeadRun.getT_eq s)
theorem Q8V (w:World):HandSHeadRun.RunEq hdR hdQ hdH hdO 12000 hdNm (w.withFollow "special-get-raises" false):=by
 intro os
 kernel_rfl
theorem Qap (w:World):HandSHeadRun.RunEq hdR hdQ hdH hdO 12000 hdNm (w.withFollow "special-get-raises" true):=by
 intro os
 kernel_rfl
theorem run_w (w:World):HandSHeadRun.RunEq hdR hdQ hdH hdO 12000 hdNm w:=PySem.W.byRow2 "special-get-raises" (P:=fun w=>HandSHeadRun.RunEq hdR hdQ hdH hdO 12000 hdNm w) Q8V Qap w
end K04
namespace K04
open PySem PySem.W PySem.Calls PyProof.Rows
theorem hd_o (h:OpenRow.wellSaid (OpenLaw.row PySem.Challenge.rw_soundstore_k04_written_and_read) = true → OpenRow.Holds (OpenLaw.row PySem.Challenge.rw_soundstore_k04_written_and_read)):OpenLaw.Holds PySem.Challenge.rw_soundstore_k04_written_and_read:=by
 o_law
 rename_i q
 exact h q
abbrev hdD:DefRec:=HandSHeadRun.topDef hdR.prog 44
theorem hd_e:opening hdR.prog = plainProg hdR.prog.main.scope.names:=by kernel_rfl
theorem hd_f:∀ s,fenceModules? hdR.prog s = some s:=fun s=>by kernel_rfl
theorem hd_d:defOf hdQ hdR.name = some (hdD,[]):=by kernel_rfl
theorem hd_p:hdR.prog.theDef hdR.name = some (hdD.params,hdD.body,hdD.scope):=by kernel_rfl
theorem hd_k:kwWritten? hdD.params.kwonlyargs hdD.params.kw_defaults = some []:=by kernel_rfl
theorem hd_1:(!hdR.writes || hdR.records.isEmpty) = true:=by rfl
theorem hd_3:(chainsOk hdQ && opensWell hdR.prog && (frees hdR.toRowW && hdR.within.isEmpty)) = true:=by decide +kernel
theorem hd_4:hdR.prog.bare:=⟨rfl,rfl,rfl,rfl,rfl,by decide +kernel⟩
end K04
namespace Z
open PySem PySem.Spec PyProof.Rows L2
def Q4e:Key → D
 | .inl i=>.int i
 | .inr s=>.str s
mutual
/-- the value v is the datum d,in the part G of the heap -/
inductive Rp (K:PySem.W.Frag) (G:Hp):V → D → Prop
 | non:Rp K G .non .none
 | bl (b:Bool):Rp K G (.bl b) (.bool b)
 | int (i:Int):Rp K G (.int i) (.int i)
 | str (x:Str):Rp K G (.str x) (.str x)
 | lst {a:Addr} {xs:List V} {ds:List D}:G a = some (.lst xs) → Rps K G xs ds → Rp K G (.ref a) (.list ds)
 | tup {a:Addr} {xs:List V} {ds:List D}:SqT K G a xs → Rps K G xs ds → Rp K G (.ref a) (.tuple ds)
 | dic {a:Addr} {o:Obj} {kvs:List (Key × V)} {ds:List (D × D)}:G a = some (.frz o (.dK kvs)) → RpK K G kvs ds → Rp K G (.ref a) (.dict ds)
inductive Rps (K:PySem.W.Frag) (G:Hp):List V → List D → Prop
 | nil:Rps K G [] []
 | cons {v:V} {vs:List V} {d:D} {ds:List D}:Rp K G v d → Rps K G vs ds → Rps K G (v :: vs) (d :: ds)
inductive RpK (K:PySem.W.Frag) (G:Hp):List (Key × V) → List (D × D) → Prop
 | nil:RpK K G [] []
 | cons {k:Key} {v:V} {r:List (Key × V)} {d:D} {ds:List (D × D)}:Rp K G v d → RpK K G r ds → RpK K G ((k,v) :: r) ((Q4e k,d) :: ds)
end
theorem Same.sqt {K:PySem.W.Frag} {H H':Hp} {a:Addr} {xs:List V} (e:Same H H') (h:SqT K H a xs):SqT K H' a xs:=by
 rcases h with h | h
 ·rcases h with h | ⟨o,h⟩
  ·exact .inl (.inl (e _ _ h))
  ·exact .inl (.inr ⟨o,e _ _ h⟩)
 ·exact .inr h
section
variable {K:PySem.W.Frag} {G G':Hp}
mutual
theorem Rp.mono (e:Same G G'):∀ {v:V} {d:D},Rp K G v d → Rp K G' v d
 | _,_,.non=>.non
 | _,_,.bl b=>.bl b
 | _,_,.int i=>.int i
 | _,_,.str x=>.str x
 | _,_,.lst h r=>.lst (e _ _ h) (Rps.mono e r)
 | _,_,.tup h r=>.tup (Same.sqt e h) (Rps.mono e r)
 | _,_,.dic h r=>.dic (e _ _ h) (RpK.mono e r)
theorem Rps.mono (e:Same G G'):∀ {vs:List V} {ds:List D},Rps K G vs ds → Rps K G' vs ds
 | _,_,.nil=>.nil
 | _,_,.cons h r=>.cons (Rp.mono e h) (Rps.mono e r)
theorem RpK.mono (e:Same G G'):∀ {vs:List (Key × V)} {ds:List (D × D)},RpK K G vs ds → RpK K G' vs ds
 | _,_,.nil=>.nil
 | _,_,.cons h r=>.cons (Rp.mono e h) (RpK.mono e r)
end
theorem Rps.length:∀ {vs:List V} {ds:List D},Rps K G vs ds → vs.length = ds.length
 | _,_,.nil=>rfl
 | _,_,.cons _ r=>congrArg (· + 1) r.length
theorem Rps.append:∀ {vs ws:List V} {ds es:List D},Rps K G vs ds → Rps K G ws es → Rps K G (vs ++ ws) (ds ++ es)
 | _,_,_,_,.nil,s=>s
 | _,_,_,_,.cons h r,s=>.cons h (r.append s)
theorem Rps.take:∀ {vs:List V} {ds:List D} (n:Nat),Rps K G vs ds → Rps K G (vs.take n) (ds.take n)
 | _,_,0,_=>by simpa using Rps.nil
 | _,_,_ + 1,.nil=>by simpa using Rps.nil
 | _,_,n + 1,.cons h r=>by simpa using Rps.cons h (r.take n)
theorem Rps.drop:∀ {vs:List V} {ds:List D} (n:Nat),Rps K G vs ds → Rps K G (vs.drop n) (ds.drop n)
 | _,_,0,r=>r
 | _,_,_ + 1,.nil=>.nil
 | _,_,n + 1,.cons _ r=>r.drop n
theorem Rps.get:∀ {vs:List V} {ds:List D} {i:Nat} {d:D},Rps K G vs ds → ds[i]? = some d → ∃ v,vs[i]? = some v ∧ Rp K G v d
 | _,_,_,_,.nil,e=>by simp at e
 | _,_,0,_,.cons h _,e=>by simp at e; subst e; exact ⟨_,rfl,h⟩
 | _,_,i + 1,d,.cons _ r,e=>by
  obtain ⟨v,h1,h2⟩:=Rps.get (i:=i) (d:=d) r (by simpa using e)
  exact ⟨v,by simpa using h1,h2⟩
theorem Rps.set:∀ {vs:List V} {ds:List D} {v:V} {d:D} (i:Nat),Rps K G vs ds → Rp K G v d → Rps K G (vs.set i v) (ds.set i d)
 | _,_,_,_,_,.nil,_=>.nil
 | _,_,_,_,0,.cons _ r,h=>.cons h r
 | _,_,_,_,i + 1,.cons q r,h=>.cons q (r.set i h)
theorem Rps.eraseIdx:∀ {vs:List V} {ds:List D} (i:Nat),Rps K G vs ds → Rps K G (vs.eraseIdx i) (ds.eraseIdx i)
 | _,_,_,.nil=>.nil
 | _,_,0,.cons _ r=>r
 | _,_,i + 1,.cons q r=>.cons q (r.eraseIdx i)
theorem Rps.ints:∀ {vs:List V} {ns:List Int},Rps K G vs (ns.map Q0) → vs = ns.map V.int
 | _,[],.nil=>rfl
 | _,n :: ns,.cons h r=>by
  cases h
  rw [r.ints]
  rfl
theorem Q2i:∀ (ns:List Int),Rps K G (ns.map V.int) (ns.map Q0)
 | []=>.nil
 | n :: ns=>.cons (.int n) (Q2i ns)
end
mutual
def noL:D → Bool
 | .list _=>false
 | .dict _=>false
 | .tuple xs=>Qb5 xs
 | _=>true
def Qb5:List D → Bool
 | []=>true
 | x :: xs=>noL x && Qb5 xs
end
section
variable {K:PySem.W.Frag} {G G':Hp}
mutual
/-- tuples alone are looked at -/
theorem Rp.flat (e:∀ a xs,SqT K G a xs → SqT K G' a xs):∀ {v:V} {d:D},noL d = true → Rp K G v d → Rp K G' v d
 | _,_,_,.non=>.non
 | _,_,_,.bl b=>.bl b
 | _,_,_,.int i=>.int i
 | _,_,_,.str x=>.str x
 | _,_,h0,.lst _ _=>by simp [noL] at h0
 | _,_,h0,.tup h r=>.tup (e _ _ h) (Rps.flat e (by simpa [noL] using h0) r)
 | _,_,h0,.dic _ _=>by simp [noL] at h0
theorem Rps.flat (e:∀ a xs,SqT K G a xs → SqT K G' a xs):∀ {vs:List V} {ds:List D},Qb5 ds = true → Rps K G vs ds → Rps K G' vs ds
 | _,_,_,.nil=>.nil
 | _,_,h0,.cons h r=>by
  simp only [Qb5,Q6] at h0
  exact .cons (Rp.flat e h0.1 h) (Rps.flat e h0.2 r)
end
end
inductive Sl where
 /-- nothing is known -/
 | no
 /-- a datum -/
 | fz (d:D)
 /-- a list or dict of the frame's own: nobody else knows it -/
 | ow (d:D)
 /-- an own dict while it is locked -/
 | lk (ds:List (D × D))
 /-- a law's deck -/
 | dk (cs:List Int) (m n:Int)
 /-- the script -/
 | scr (ns:List Int)
 /-- an object of the frame's own: its class,its fields and their slots -/
 | ob (c:Str) (fs:List (Str × Nat))
 /-- a field that isn't there yet -/
 | ab
 /-- a caught exception -/
 | xv (a:Addr)
 /-- an own dict of own lists -/
 | dl (ds:List (D × D))
inductive Fr where
 | n | l | t | p
 | s (j:Nat)
def Wz (K:PySem.W.Frag) (F H:Hp) (p:Addr):D → Prop
 | .list ds=>∃ xs,H p = some (.lst xs) ∧ Rps K F xs ds
 | .dict ds=>∃ kvs,H p = some (.dK kvs) ∧ RpK K F kvs ds
 | _=>False
def Q5L (K:PySem.W.Frag) (F H:Hp) (p:Addr):D → Prop
 | .list ds=>∃ xs,H p = some (.lst xs) ∧ Rps K F xs ds
 | .dict ds=>∃ o kvs,H p = some (.frz o (.dK kvs)) ∧ RpK K F kvs ds
 | _=>False
def PlT (K:PySem.W.Frag) (F:Hp) (v:V) (d:D):Prop:=∃ (p:Addr) (o:Obj) (xs:List V) (ds:List D),v = .ref p ∧ d = .tuple ds ∧ F p = some (.frz o (.tup xs)) ∧ o.dict = none ∧ Rps K F xs ds
def Q6g (K:PySem.W.Frag) (c:Str) (C:Addr):Prop:=PySem.W.nsIn K mainGlobals c = some (some (.ref C))
inductive DLs (K:PySem.W.Frag) (F H:Hp):List (Key × V) → List (D × D) → List Addr → Prop
 | nil:DLs K F H [] [] []
 | cons {k:Key} {q:Addr} {xs:List V} {ds:List D} {r:List (Key × V)} {s:List (D × D)} {A:List Addr}:H q = some (.lst xs) → Rps K F xs ds → DLs K F H r s A → DLs K F H ((k,.ref q) :: r) ((Q4e k,.list ds) :: s) (q :: A)
theorem DLs.mono {K:PySem.W.Frag} {F F' H H':Hp} (e:Same F F'):∀ {kvs:List (Key × V)} {ds:List (D × D)} {A:List Addr},(∀ a ∈ A,H' a = H a) → DLs K F H kvs ds A → DLs K F' H' kvs ds A
 | _,_,_,_,.nil=>.nil
 | _,_,_,k,.cons h r t=>.cons (by rw [k _ (by simp)]; exact h) (r.mono e) (t.mono e fun a ha=>k a (Q4 _ ha))
theorem DLs.there {K:PySem.W.Frag} {F H:Hp}:∀ {kvs:List (Key × V)} {ds:List (D × D)} {A:List Addr},DLs K F H kvs ds A → ∀ a ∈ A,∃ xs,H a = some (.lst xs)
 | _,_,_,.nil,a,ha=>by simp at ha
 | _,_,_,.cons h _ t,a,ha=>by
  rcases Q7.mp ha with rfl | m
  ·exact ⟨_,h⟩
  ·exact t.there a m
def Q00 (K:PySem.W.Frag) (F H:Hp):Sl → Option V → List Addr → Prop
 | .no,_,A=>A = []
 | .fz d,v,A=>A = [] ∧ ∃ x,v = some x ∧ Rp K F x d
 | .ow d,v,A=>∃ p,v = some (.ref p) ∧ A = [p] ∧ Wz K F H p d
 | .lk ds,v,A=>∃ p,v = some (.ref p) ∧ A = [p] ∧ Q5L K F H p (.dict ds)
 | .dk cs m n,v,A=>∃ p q,v = some (.ref p) ∧ A = [p,q] ∧ H p = some (.lst [.ref q,.int m,.int n]) ∧ H q = some (.lst (cs.map V.int))
 | .scr ns,v,A=>A = [] ∧ ∃ a,v = some (.ref a) ∧ SqL K F a (ns.map V.int)
 | .ab,v,A=>A = [] ∧ v = none
 | .xv a,v,A=>A = [] ∧ v = some (.ref a)
 | .dl ds,v,A=>∃ p kvs qs,v = some (.ref p) ∧ A = p :: qs ∧ (p :: qs).Nodup ∧ (kvs.map (·.1)).Nodup ∧ H p = some (.dK kvs) ∧ DLs K F H kvs ds qs
 | .ob c _,v,A=>∃ p dx C fvs,v = some (.ref p) ∧ A = [p,dx] ∧ Q6g K c C ∧ H p = some (.ins C dx fvs) ∧ H dx = some (.own p)
def jn (o:Option (Option V)):Option V:=o.join
structure Iom where
 f:Nat → Bool
 mv:Nat → Bool
instance:CoeFun Iom (fun _=>Nat → Bool):=⟨Iom.f⟩
def Iom.of (f:Nat → Bool):Iom:=⟨f,fun _=>false⟩
structure Fx where
 /-- slots that no statement stores to -/
 io:Iom
 /-- slots that are lent by the caller -/
 lt:Nat → Bool
 /-- fields of objects -/
 vt:Nat → Bool
 H0:Hp
 F0:Hp
 σ0:L2.St
 A0:Nat → List Addr
 mvl:∀ i,io.mv i = true → lt i = false
def Q7l (σ:L2.St) (fs:List (Str × Nat)):List (Str × V):=fs.filterMap fun q=>(jn σ[q.2]?).map fun v=>(q.1,v)
def Fx.any:Fx:=⟨Iom.of fun _=>false,fun _=>false,fun _=>false,fun _=>none,fun _=>none,[],fun _=>[],fun _ _=>rfl⟩
def ObR (io:Nat → Bool) (H:Hp) (v:Option V) (σ:L2.St) (fs:List (Str × Nat)):Prop:=(∀ q ∈ fs,io q.2 = true) ∧ ∀ p C dx fvs,v = some (.ref p) → H p = some (.ins C dx fvs) → fvs = Q7l σ fs
structure SR (K:PySem.W.Frag) (Y:Fx) (F H:Hp) (δ:List Sl) (σ:L2.St) (A:Nat → List Addr):Prop where
 len:δ.length = σ.length
 slot:∀ i s,δ[i]? = some s → Q00 K F H s (jn σ[i]?) (A i)
 out:∀ i,δ[i]? = none → A i = []
 dis:∀ i j a,a ∈ A i → a ∈ A j → i = j
 hid:∀ i a,a ∈ A i → F a = none
 new:∀ i a,a ∈ A i → Y.lt i = false → Y.H0 a = none
 sub:Same F H
 fix:∀ i,Y.lt i = true → σ[i]? = Y.σ0[i]? ∧ A i = Y.A0 i
 ioA:∀ i,Y.lt i = true → True
 kp:∀ a o,Y.H0 a = some o → (∀ i,Y.lt i = true → a ∉ Y.A0 i) → H a = some o
 nw:∀ a,Y.F0 a = none → F a ≠ none → Y.H0 a = none
 f0:Same Y.F0 F
 lio:∀ i,(Y.lt i = true ∨ Y.vt i = true) → Y.io i = true
 ob:∀ (i:Nat) (c:Str) (fs:List (Str × Nat)),δ[i]? = some (Sl.ob c fs) → ObR Y.vt H (jn σ[i]?) σ fs
 vno:∀ (j:Nat),Y.io j = true → δ[j]? ≠ some Sl.no
theorem Wz.mono {K:PySem.W.Frag} {F F' H H':Hp} {p:Addr} {d:D} (e:Same F F') (k:H' p = H p) (h:Wz K F H p d):Wz K F' H' p d:=by
 cases d with
 | list ds=>obtain ⟨xs,h1,h2⟩:=h; exact ⟨xs,by rw [k]; exact h1,h2.mono e⟩
 | dict ds=>obtain ⟨xs,h1,h2⟩:=h; exact ⟨xs,by rw [k]; exact h1,h2.mono e⟩
 | _=>exact h.elim
theorem Wz.there {K:PySem.W.Frag} {F H:Hp} {p:Addr} {d:D} (h:Wz K F H p d):(∃ xs,H p = some (.lst xs)) ∨ ∃ kvs,H p = some (.dK kvs):=by
 cases d with
 | list ds=>obtain ⟨xs,h1,_⟩:=h; exact .inl ⟨_,h1⟩
 | dict ds=>obtain ⟨xs,h1,_⟩:=h; exact .inr ⟨_,h1⟩
 | _=>exact h.elim
theorem Q5L.mono {K:PySem.W.Frag} {F F' H H':Hp} {p:Addr} {d:D} (e:Same F F') (k:H' p = H p) (h:Q5L K F H p d):Q5L K F' H' p d:=by
 cases d with
 | list ds=>obtain ⟨xs,h1,h2⟩:=h; exact ⟨xs,by rw [k]; exact h1,h2.mono e⟩
 | dict ds=>obtain ⟨o,xs,h1,h2⟩:=h; exact ⟨o,xs,by rw [k]; exact h1,h2.mono e⟩
 | _=>exact h.elim
def Thr (H:Hp) (a:Addr):Prop:=(∃ xs,H a = some (.lst xs)) ∨ (∃ kvs,H a = some (.dK kvs)) ∨ (∃ o kvs,H a = some (.frz o (.dK kvs))) ∨ (∃ C dx fs,H a = some (.ins C dx fs)) ∨ ∃ b,H a = some (.own b)
theorem Thr.some {H:Hp} {a:Addr} (h:Thr H a):∃ u,H a = some u:=by
 rcases h with ⟨_,e⟩ | ⟨_,e⟩ | ⟨_,_,e⟩ | ⟨_,_,_,e⟩ | ⟨_,e⟩ <;> exact ⟨_,e⟩
theorem Q5L.there {K:PySem.W.Frag} {F H:Hp} {p:Addr} {d:D} (h:Q5L K F H p d):Thr H p:=by
 cases d with
 | list ds=>obtain ⟨xs,h1,_⟩:=h; exact .inl ⟨_,h1⟩
 | dict ds=>obtain ⟨o,xs,h1,_⟩:=h; exact .inr (.inr (.inl ⟨_,_,h1⟩))
 | _=>exact h.elim
theorem Wz.thr {K:PySem.W.Frag} {F H:Hp} {p:Addr} {d:D} (h:Wz K F H p d):Thr H p:=by
 rcases h.there with e | e
 ·exact .inl e
 ·exact .inr (.inl e)
theorem Q00.there {K:PySem.W.Frag} {F H:Hp} {s:Sl} {v:Option V} {A:List Addr} (h:Q00 K F H s v A) {a:Addr} (ha:a ∈ A):Thr H a:=by
 cases s with
 | no=>cases h; simp at ha
 | fz d=>obtain ⟨e,_⟩:=h; subst e; simp at ha
 | ow d=>obtain ⟨p,_,e,o⟩:=h; subst e; simp at ha; subst ha; exact o.thr
 | lk d=>obtain ⟨p,_,e,o⟩:=h; subst e; simp at ha; subst ha; exact o.there
 | dk cs m n =>
  obtain ⟨p,q,_,e,h1,h2⟩:=h
  subst e
  simp at ha
  rcases ha with rfl | rfl
  ·exact .inl ⟨_,h1⟩
  ·exact .inl ⟨_,h2⟩
 | scr ns=>obtain ⟨e,_⟩:=h; subst e; simp at ha
 | ab=>obtain ⟨e,_⟩:=h; subst e; simp at ha
 | xv a=>obtain ⟨e,_⟩:=h; subst e; simp at ha
 | dl ds =>
  obtain ⟨p,kvs,qs,_,e,_,_,h1,h2⟩:=h
  subst e
  rcases Q7.mp ha with rfl | m
  ·exact .inr (.inl ⟨_,h1⟩)
  ·exact .inl (h2.there a m)
 | ob c fs =>
  obtain ⟨p,dx,C,fvs,_,e,_,h1,h2⟩:=h
  subst e
  simp at ha
  rcases ha with rfl | rfl
  ·exact .inr (.inr (.inr (.inl ⟨_,_,_,h1⟩)))
  ·exact .inr (.inr (.inr (.inr ⟨_,h2⟩)))
theorem Q00.mono {K:PySem.W.Frag} {F F' H H':Hp} {s:Sl} {v:Option V} {A:List Addr} (e:Same F F') (k:∀ a ∈ A,H' a = H a) (h:Q00 K F H s v A):Q00 K F' H' s v A:=by
 cases s with
 | no=>exact h
 | fz d=>obtain ⟨e1,x,e2,r⟩:=h; exact ⟨e1,x,e2,r.mono e⟩
 | ow d=>obtain ⟨p,e1,e2,o⟩:=h; subst e2; exact ⟨p,e1,rfl,o.mono e (k p (by simp))⟩
 | lk d=>obtain ⟨p,e1,e2,o⟩:=h; subst e2; exact ⟨p,e1,rfl,o.mono e (k p (by simp))⟩
 | dk cs m n =>
  obtain ⟨p,q,e1,e2,h1,h2⟩:=h
  subst e2
  exact ⟨p,q,e1,rfl,by rw [k p (by simp)]; exact h1,by rw [k q (by simp)]; exact h2⟩
 | scr ns=>obtain ⟨e1,a,e2,r⟩:=h; exact ⟨e1,a,e2,e.seq r⟩
 | ab=>exact h
 | xv a=>exact h
 | dl ds =>
  obtain ⟨p,kvs,qs,e1,e2,nd,nk,h1,h2⟩:=h
  subst e2
  exact ⟨p,kvs,qs,e1,rfl,nd,nk,by rw [k p (by simp)]; exact h1,h2.mono e fun a ha=>k a (Q4 _ ha)⟩
 | ob c fs =>
  obtain ⟨p,dx,C,fvs,e1,e2,e3,h1,h2⟩:=h
  subst e2
  exact ⟨p,dx,C,fvs,e1,rfl,e3,by rw [k p (by simp)]; exact h1,by rw [k dx (by simp)]; exact h2⟩
section
variable {K:PySem.W.Frag} {Y:Fx} {F F' F1 F2 H H' H1 H2:Hp} {δ δ':List Sl} {σ:L2.St} {A:Nat → List Addr} {M M' R R':List Nat}
theorem SR.there (S:SR K Y F H δ σ A) {i:Nat} {a:Addr} (ha:a ∈ A i):Thr H a:=by
 cases e:δ[i]? with
 | none=>rw [S.out i e] at ha; simp at ha
 | some s=>exact (S.slot i s e).there ha
theorem SR.isSome (S:SR K Y F H δ σ A) {i:Nat} {a:Addr} (ha:a ∈ A i):H a ≠ none:=by
 obtain ⟨u,e⟩:=(S.there ha).some
 rw [e]; simp
theorem SR.nlt (S:SR K Y F H δ σ A) {i:Nat} (h:Y.io i = false):Y.lt i = false:=by
 cases e:Y.lt i with
 | false=>rfl
 | true=>rw [S.lio i (.inl e)] at h; cases h
theorem SR.nvt (S:SR K Y F H δ σ A) {i:Nat} (h:Y.io i = false):Y.vt i = false:=by
 cases e:Y.vt i with
 | false=>rfl
 | true=>rw [S.lio i (.inr e)] at h; cases h
theorem SR.obp (S:SR K Y F H δ σ A) {i:Nat} {c:Str} {fs:List (Str × Nat)} {p:Addr} (h:δ[i]? = some (.ob c fs)) (e:jn σ[i]? = some (.ref p)):p ∈ A i:=by
 obtain ⟨q,dx,C,fvs,e1,e2,_⟩:=S.slot i _ h
 rw [e] at e1
 cases e1
 rw [e2]
 simp
theorem SR.obK (S:SR K Y F H δ σ A) (k:∀ (i:Nat) (c:Str) (fs:List (Str × Nat)),δ[i]? = some (Sl.ob c fs) → ∀ a ∈ A i,H' a = H a):∀ (i:Nat) (c:Str) (fs:List (Str × Nat)),δ[i]? = some (Sl.ob c fs) → ObR Y.vt H' (jn σ[i]?) σ fs:=fun i c fs h=>by
 obtain ⟨h1,h2⟩:=S.ob i c fs h
 refine ⟨h1,fun p C dx fvs e1 e2=>h2 p C dx fvs e1 ?_⟩
 rw [← k i c fs h p (S.obp h e1)]
 exact e2
structure Stp (A:Nat → List Addr) (M:List Nat) (F H F' H':Hp):Prop where
 f:Same F F'
 nw:∀ a,F a = none → F' a ≠ none → H a = none
 kp:∀ a o,H a = some o → (∀ i ∈ M,a ∉ A i) → H' a = some o
theorem Stp.refl:Stp A M F H F H:=⟨Same.refl _,fun _ h h'=>absurd h h',fun _ _ h _=>h⟩
theorem Stp.mono (h:Stp A M F H F' H') (s:∀ i ∈ M,i ∈ M'):Stp A M' F H F' H':=⟨h.f,h.nw,fun a o e n=>h.kp a o e fun i hi=>n i (s i hi)⟩
theorem Stp.trans (S1:SR K Y F1 H1 δ' σ A) (h:Stp A M F H F1 H1) (h':Stp A M' F1 H1 F2 H2):Stp A (M ++ M') F H F2 H2:=by
 refine ⟨h.f.trans h'.f,fun a e n=>?_,fun a o e n=>?_⟩
 ·cases e1:F1 a with
  | some o=>exact h.nw a e (by rw [e1]; simp)
  | none =>
   have q:=h'.nw a e1 n
   cases e2:H a with
   | none=>rfl
   | some o =>
    by_cases c:∃ i ∈ M,a ∈ A i
    ·obtain ⟨i,_,hi⟩:=c
     exact absurd q (S1.isSome hi)
    ·rw [h.kp a o e2 fun i hi z=>c ⟨i,hi,z⟩] at q
     cases q
 ·exact h'.kp a o (h.kp a o e fun i hi=>n i (Qa _ hi)) fun i hi=>n i (Qf _ hi)
def ex (R:List Nat) (A:Nat → List Addr) (F H:Hp):Hp:=fun a=>if ∃ i ∈ R,a ∈ A i then H a else F a
theorem QaA:ex [] A F H = F:=by
 funext a
 unfold ex
 rw [if_neg]
 simp
theorem Q0o (S:SR K Y F H δ σ A):Same (ex R A F H) H:=fun a o e=>by
 unfold ex at e
 split at e
 ·exact e
 ·exact S.sub a o e
theorem Q31 (S:SR K Y F H δ σ A):Same F (ex R A F H):=fun a o e=>by
 unfold ex
 rw [if_neg]
 ·exact e
 ·rintro ⟨i,_,h⟩
  rw [S.hid i a h] at e
  cases e
theorem SR.laid (S:SR K Y F H δ σ A) {p:Addr} {o:HO} (hp:H p = none):SR K Y (upd F p o) (upd H p o) δ σ A:=by
 have hF:F p = none:=S.sub.free hp
 have sF:Same F (upd F p o):=fun b x e=>by rw [upd_ne (ne_of_none e hF)]; exact e
 have nA:∀ i a,a ∈ A i → a ≠ p:=fun i a h e=>by subst e; exact S.isSome h hp
 refine ⟨S.len,fun i s e=>(S.slot i s e).mono sF fun a ha=>upd_ne (nA i a ha),S.out,S.dis,fun i a h=>by rw [upd_ne (nA i a h)]; exact S.hid i a h,S.new,fun b x e=>?_,S.fix,S.ioA,fun a x e n=>?_,fun a e n=>?_,S.f0.trans sF,S.lio,S.obK fun i _ _ _ a ha=>upd_ne (nA i a ha),S.vno⟩
 ·by_cases c:b = p
  ·subst c; rw [upd_same] at e ⊢; exact e
  ·rw [upd_ne c] at e ⊢; exact S.sub _ _ e
 ·have q:=S.kp a x e n
  rw [upd_ne (ne_of_none q hp)]
  exact q
 ·by_cases c:a = p
  ·subst c
   cases e2:Y.H0 a with
   | none=>rfl
   | some x =>
    by_cases c2:∃ i,Y.lt i = true ∧ a ∈ Y.A0 i
    ·obtain ⟨i,hi,hA⟩:=c2
     rw [← (S.fix i hi).2] at hA
     exact absurd hp (S.isSome hA)
    ·have:=S.kp a x e2 fun i hi z=>c2 ⟨i,hi,z⟩
     rw [hp] at this
     cases this
  ·rw [upd_ne c] at n
   exact S.nw a e n
theorem Stp.laid (S:SR K Y F H δ σ A) {p:Addr} {o:HO} (hp:H p = none):Stp A M F H (upd F p o) (upd H p o):=by
 have hF:F p = none:=S.sub.free hp
 refine ⟨fun b x e=>by rw [upd_ne (ne_of_none e hF)]; exact e,fun a e n=>?_,fun a x e _=>by rw [upd_ne (ne_of_none e hp)]; exact e⟩
 by_cases c:a = p
 ·subst c; exact hp
 ·rw [upd_ne c] at n
  exact absurd e n
theorem SR.laidO (S:SR K Y F H δ σ A) {p:Addr} {o:HO} (hp:H p = none):SR K Y F (upd H p o) δ σ A:=by
 have nA:∀ i a,a ∈ A i → a ≠ p:=fun i a h e=>by subst e; exact S.isSome h hp
 refine ⟨S.len,fun i s e=>(S.slot i s e).mono (Same.refl _) fun a ha=>upd_ne (nA i a ha),S.out,S.dis,S.hid,S.new,fun b x e=>?_,S.fix,S.ioA,fun a x e n=>?_,S.nw,S.f0,S.lio,S.obK fun i _ _ _ a ha=>upd_ne (nA i a ha),S.vno⟩
 ·have q:=S.sub b x e
  rw [upd_ne (ne_of_none q hp)]
  exact q
 ·have q:=S.kp a x e n
  rw [upd_ne (ne_of_none q hp)]
  exact q
theorem Stp.laidO {p:Addr} {o:HO} (hp:H p = none):Stp A M F H F (upd H p o) :=
 ⟨Same.refl _,fun a e n=>absurd e n,fun a x e _=>by rw [upd_ne (ne_of_none e hp)]; exact e⟩
theorem SR.upd_free (S:SR K Y F H δ σ A) {p:Addr} {o:HO} (hF:F p = none) (nA:∀ j,p ∉ A j) (hY:Y.H0 p = none):SR K Y F (upd H p o) δ σ A:=by
 refine ⟨S.len,fun i s e=>(S.slot i s e).mono (Same.refl _) fun a ha=>upd_ne fun z=>nA i (by rw [← z]; exact ha),S.out,S.dis,S.hid,S.new,fun b x e=>?_,S.fix,S.ioA,fun a x e n=>?_,S.nw,S.f0,S.lio,S.obK fun i _ _ _ a ha=>upd_ne fun z=>nA i (by rw [← z]; exact ha),S.vno⟩
 ·have q:=S.sub b x e
  rw [upd_ne]
  ·exact q
  ·intro z
   subst z
   rw [hF] at e
   cases e
 ·have q:=S.kp a x e n
  rw [upd_ne]
  ·exact q
  ·intro z
   subst z
   rw [hY] at e
   cases e
def Vw (K:PySem.W.Frag) (F H:Hp) (A:Nat → List Addr) (R:List Nat) (v:V) (d:D):Prop:=Rp K F v d ∨ ∃ i ∈ R,∃ p,v = .ref p ∧ A i = [p] ∧ Q5L K F H p d
def Vws (K:PySem.W.Frag) (F H:Hp) (A:Nat → List Addr) (R:List Nat):List V → List D → Prop
 | [],[]=>True
 | v :: vs,d :: ds=>Vw K F H A R v d ∧ Vws K F H A R vs ds
 | _,_=>False
theorem Vw.nil {v:V} {d:D} (h:Vw K F H A [] v d):Rp K F v d:=by
 rcases h with h | ⟨i,hi,_⟩
 ·exact h
 ·simp at hi
theorem Vw.mono {v:V} {d:D} (h:Vw K F H A R v d) (s:∀ i ∈ R,i ∈ R'):Vw K F H A R' v d:=by
 rcases h with h | ⟨i,hi,q⟩
 ·exact .inl h
 ·exact .inr ⟨i,s i hi,q⟩
theorem Vw.step {v:V} {d:D} (h:Vw K F H A R v d) (S:SR K Y F H δ σ A) (st:Stp A M F H F' H') (dj:∀ i ∈ R,i ∉ M):Vw K F' H' A R v d:=by
 rcases h with h | ⟨i,hi,p,e,eA,o⟩
 ·exact .inl (h.mono st.f)
 ·refine .inr ⟨i,hi,p,e,eA,o.mono st.f ?_⟩
  have hp:p ∈ A i:=by rw [eA]; simp
  have na:∀ j ∈ M,p ∉ A j:=fun j hj z=>by
   have:j = i:=S.dis j i p z hp
   subst this
   exact dj _ hi hj
  obtain ⟨xs,q⟩:=o.there.some
  rw [q,st.kp p _ q na]
theorem Vws.nil:∀ {vs:List V} {ds:List D},Vws K F H A [] vs ds → Rps K F vs ds
 | [],[],_=>.nil
 | v :: vs,d :: ds,⟨h,r⟩=>.cons h.nil (Vws.nil r)
 | [],_ :: _,h=>h.elim
 | _ :: _,[],h=>h.elim
theorem Vws.mono (s:∀ i ∈ R,i ∈ R'):∀ {vs:List V} {ds:List D},Vws K F H A R vs ds → Vws K F H A R' vs ds
 | [],[],_=>trivial
 | v :: vs,d :: ds,⟨h,r⟩=>⟨h.mono s,Vws.mono s r⟩
 | [],_ :: _,h=>h.elim
 | _ :: _,[],h=>h.elim
theorem Vw.list {v:V} {ds:List D} (S:SR K Y F H δ σ A) (h:Vw K F H A R v (.list ds)):∃ p xs,v = .ref p ∧ H p = some (.lst xs) ∧ Rps K F xs ds:=by
 rcases h with h | ⟨i,hi,p,e,_,o⟩
 ·cases h with
  | lst h1 r=>exact ⟨_,_,rfl,S.sub _ _ h1,r⟩
 ·obtain ⟨xs,h1,r⟩:=o
  exact ⟨p,xs,e,h1,r⟩
theorem Vw.dict {v:V} {ds:List (D × D)} (S:SR K Y F H δ σ A) (h:Vw K F H A R v (.dict ds)):∃ p o kvs,v = .ref p ∧ H p = some (.frz o (.dK kvs)) ∧ RpK K F kvs ds:=by
 rcases h with h | ⟨i,hi,p,e,_,o⟩
 ·cases h with
  | dic h1 r=>exact ⟨_,_,_,rfl,S.sub _ _ h1,r⟩
 ·obtain ⟨o,xs,h1,r⟩:=o
  exact ⟨p,o,xs,e,h1,r⟩
theorem Vw.rp {v:V} {d:D} (h:Vw K F H A R v d) (hl:∀ ds,d ≠ .list ds) (hd:∀ ds,d ≠ .dict ds):Rp K F v d:=by
 rcases h with h | ⟨i,hi,p,e,_,o⟩
 ·exact h
 ·cases d with
  | list ds=>exact absurd rfl (hl ds)
  | dict ds=>exact absurd rfl (hd ds)
  | _=>exact o.elim
theorem Vw.tup {v:V} {ds:List D} (S:SR K Y F H δ σ A) (h:Vw K F H A R v (.tuple ds)):∃ p xs,v = .ref p ∧ SqT K F p xs ∧ SqT K H p xs ∧ Rps K F xs ds:=by
 cases h.rp (fun _=>by simp) (fun _=>by simp) with
 | tup h1 r=>exact ⟨_,_,rfl,h1,Same.sqt S.sub h1,r⟩
theorem Vw.int {v:V} {i:Int} (h:Vw K F H A R v (.int i)):v = .int i:=by
 cases h.rp (fun _=>by simp) (fun _=>by simp)
 rfl
theorem Vw.str {v:V} {i:Str} (h:Vw K F H A R v (.str i)):v = .str i:=by
 cases h.rp (fun _=>by simp) (fun _=>by simp)
 rfl
theorem Vw.bl {v:V} {i:Bool} (h:Vw K F H A R v (.bool i)):v = .bl i:=by
 cases h.rp (fun _=>by simp) (fun _=>by simp)
 rfl
theorem Vw.ex {v:V} {d:D} (S:SR K Y F H δ σ A) (h:Vw K F H A R v d):Rp K (ex R A F H) v d:=by
 rcases h with h | ⟨i,hi,p,e,eA,o⟩
 ·exact h.mono (Q31 S)
 ·subst e
  have g:Z.ex R A F H p = H p:=if_pos ⟨i,hi,by rw [eA]; simp⟩
  cases d with
  | list ds=>obtain ⟨xs,h1,h2⟩:=o; exact .lst (by rw [g]; exact h1) (h2.mono (Q31 S))
  | dict ds=>obtain ⟨o,xs,h1,h2⟩:=o; exact .dic (by rw [g]; exact h1) (h2.mono (Q31 S))
  | _=>exact o.elim
def EV (X:Cx) (e:Expr) (f:List Sl → Option (D × List Sl)) (R M:List Nat):Prop :=
 ∃ t,PE X e t ∧ ∀ (Y:Fx) (F H:Hp) (δ:List Sl) (σ:L2.St) (A:Nat → List Addr),SR X.K Y F H δ σ A → ∀ (d:D) (δ':List Sl),f δ = some (d,δ') → ∀ Q:VK,
  (∀ v F' H',Stp A M F H F' H' → SR X.K Y F' H' δ' σ A → Vw X.K F' H' A R v d → Q v H') → t σ H Q
def TV (X:Cx) (e:Expr) (f:List Sl → Option (Bool × List Sl)) (M:List Nat):Prop :=
 ∃ t,PT X e t ∧ ∀ (Y:Fx) (F H:Hp) (δ:List Sl) (σ:L2.St) (A:Nat → List Addr),SR X.K Y F H δ σ A → ∀ (b:Bool) (δ':List Sl),f δ = some (b,δ') → ∀ Q:Bool → Hp → Prop,
  (∀ F' H',Stp A M F H F' H' → SR X.K Y F' H' δ' σ A → Q b H') → t σ H Q
def AV (X:Cx) (es:List Expr) (f:List Sl → Option (List D × List Sl)) (R M:List Nat):Prop :=
 ∃ t,PA X es t ∧ ∀ (Y:Fx) (F H:Hp) (δ:List Sl) (σ:L2.St) (A:Nat → List Addr),SR X.K Y F H δ σ A → ∀ (ds:List D) (δ':List Sl),f δ = some (ds,δ') → ∀ Q:List V → Hp → Prop,
  (∀ vs F' H',Stp A M F H F' H' → SR X.K Y F' H' δ' σ A → Vws X.K F' H' A R vs ds → Q vs H') → t σ H Q
def NV (X:Cx) (e:Expr) (f:List Sl → Option (D × List Sl)) (M:List Nat):Prop :=
 ∃ t,PE X e t ∧ ∀ (Y:Fx) (F H:Hp) (δ:List Sl) (σ:L2.St) (A:Nat → List Addr),SR X.K Y F H δ σ A → ∀ (d:D) (δ':List Sl),f δ = some (d,δ') → ∀ Q:VK,
  (∀ p F' H',Stp A M F H F' H' → SR X.K Y F' H' δ' σ A → H p = none → F' p = none → Wz X.K F' H' p d → Q (.ref p) H') → t σ H Q
end
end Z
namespace Z
open PySem PySem.Spec PyProof.Rows L2
section
variable {X:Cx} {pos:Pos}
def Jq (d:D):List Sl → Option (D × List Sl):=fun δ=>some (d,δ)
def Jr (i:Nat):List Sl → Option (D × List Sl):=fun δ=>match δ[i]? with | some (.fz d)=>some (d,δ) | _=>none
def QdZ (i:Nat):List Sl → Option (D × List Sl):=fun δ=>match δ[i]? with | some (.ow (.list ds))=>some (.list ds,δ) | some (.lk ds)=>some (.dict ds,δ) | _=>none
theorem Q2h {e:Expr} {v:V} {d:D} (h:PE X e (tC v)) (r:∀ G,Rp X.K G v d):EV X e (Jq d) [] []:=by
 refine ⟨_,h,fun Y F H δ σ A S d' δ' e Q k=>?_⟩
 cases e
 exact k _ _ _ Stp.refl S (.inl (r _))
theorem Jl {i j}:EV X (.Constant (.int i) j pos) (Jq (.int i)) [] []:=Q2h pe_int fun _=>.int _
theorem Q3h {i j}:EV X (.Constant (.bool i) j pos) (Jq (.bool i)) [] []:=Q2h pe_bl fun _=>.bl _
theorem Q0D {i j}:EV X (.Constant (.str i) j pos) (Jq (.str i)) [] []:=Q2h pe_str fun _=>.str _
theorem Q9O {i:Nat} {x:Str} (hN:X.N[i]? = some x) (hv:Vis X.env.scope x) (h1:(x == ("__debug__":Str)) = false:=by decide) (h2:(x == ("__classdict__":Str)) = false:=by decide):EV X (.Name x pos) (Jr i) [] []:=by
 refine ⟨_,pe_var hN hv h1 h2,fun Y F H δ σ A S d δ' e Q k=>?_⟩
 unfold Jr at e
 split at e
 ·rename_i d0 hd
  cases e
  obtain ⟨_,v,e2,r⟩:=S.slot i _ hd
  refine ⟨v,?_,k v F H Stp.refl S (.inl r)⟩
  cases e3:σ[i]? with
  | none=>rw [e3] at e2; cases e2
  | some o=>rw [e3] at e2; cases (show o = some v from e2); rfl
 ·cases e
theorem Vb {σ:L2.St} {i:Nat} {v:V} (h:jn σ[i]? = some v):σ[i]? = some (some v):=by
 cases e3:σ[i]? with
 | none=>rw [e3] at h; cases h
 | some o=>rw [e3] at h; cases (show o = some v from h); rfl
theorem Qa1 {K:PySem.W.Frag} {F G H:Hp} {p:Addr} {d:D} (o:Q5L K F H p d) (s:Same F G) (g:G p = H p):Rp K G (.ref p) d:=by
 cases d with
 | list ds=>obtain ⟨xs,h1,h2⟩:=o; exact .lst (by rw [g]; exact h1) (h2.mono s)
 | dict ds=>obtain ⟨o,xs,h1,h2⟩:=o; exact .dic (by rw [g]; exact h1) (h2.mono s)
 | _=>exact o.elim
theorem Q9l {X:Cx} {e:Expr} {t u:TE} (h:PE X e t) (g:PE X e u):PE X e (fun σ H Q=>t σ H Q ∨ u σ H Q) :=
 ⟨fun pins s σ H Q I hw=>hw.elim (h.run pins s σ H Q I) (g.run pins s σ H Q I)⟩
theorem Q9M {X:Cx} {e:Expr} {t:TE} (h:PE X e t):PE X e (fun σ H Q=>t σ H fun v H1=>∃ d u,v = .ref d ∧ H1 d = some u ∧ Mut (some u) ∧ ∀ od,Q v (upd H1 d (.frz od u))):=by
 refine ⟨fun pins s σ H Q I hw=>?_⟩
 refine thn (h.run pins s σ H _ I hw) fun w s1 ⟨v,H1,I1,r,d,u,ev,hd,mu,q⟩=>?_
 obtain ⟨od,I2⟩:=I1.lock hd mu
 exact ⟨v,_,I2,r,q od⟩
theorem Qdr {i:Nat} {x:Str} (hN:X.N[i]? = some x) (hv:Vis X.env.scope x) (h1:(x == ("__debug__":Str)) = false:=by decide) (h2:(x == ("__classdict__":Str)) = false:=by decide):EV X (.Name x pos) (QdZ i) [i] []:=by
 refine ⟨_,pe_var hN hv h1 h2,fun Y F H δ σ A S d δ' e Q k=>?_⟩
 unfold QdZ at e
 split at e
 ·rename_i d0 hd
  cases e
  obtain ⟨p,e2,e3,o⟩:=S.slot i _ hd
  exact ⟨_,Vb e2,k _ F H Stp.refl S (.inr ⟨i,by simp,p,rfl,e3,o⟩)⟩
 ·rename_i d0 hd
  cases e
  obtain ⟨p,e2,e3,o⟩:=S.slot i _ hd
  exact ⟨_,Vb e2,k _ F H Stp.refl S (.inr ⟨i,by simp,p,rfl,e3,o⟩)⟩
 ·cases e
def OpS (X:Cx) (r:R2) (g:D → D → Option D):Prop :=
 ∀ (Y:Fx) (F H:Hp) (δ:List Sl) (σ:L2.St) (A:Nat → List Addr) (R:List Nat) (x y:V) (d e z:D),SR X.K Y F H δ σ A → Vw X.K F H A R x d → Vw X.K F H A R y e → g d e = some z →
  ∀ Q:VK,(∀ v F' H',Stp A [] F H F' H' → SR X.K Y F' H' δ σ A → Rp X.K F' v z → Q v H') → r x y H Q
def OpN (X:Cx) (r:R2) (g:D → D → Option D):Prop :=
 ∀ (Y:Fx) (F H:Hp) (δ:List Sl) (σ:L2.St) (A:Nat → List Addr) (R:List Nat) (x y:V) (d e z:D),SR X.K Y F H δ σ A → Vw X.K F H A R x d → Vw X.K F H A R y e → g d e = some z →
  ∀ Q:VK,(∀ p F' H',Stp A [] F H F' H' → SR X.K Y F' H' δ σ A → H p = none → F' p = none → Wz X.K F' H' p z → Q (.ref p) H') → r x y H Q
def f2 (g:D → D → Option D) (fa fb:List Sl → Option (D × List Sl)):List Sl → Option (D × List Sl):=fun δ=>(fa δ).bind fun p=>(fb p.2).bind fun q=>(g p.1 q.1).map fun z=>(z,q.2)
section
variable {a b c:Expr} {fa fb fc:List Sl → Option (D × List Sl)} {Ra Rb Rc Ma Mb Mc:List Nat} {g:D → D → Option D} {r:R2}
theorem Q5N {fa fb:List Sl → Option (D × List Sl)} {δ δ':List Sl} {z:D} (h:f2 g fa fb δ = some (z,δ')):∃ d δ1 e,fa δ = some (d,δ1) ∧ fb δ1 = some (e,δ') ∧ g d e = some z:=by
 unfold f2 at h
 cases e1:fa δ with
 | none=>rw [e1] at h; cases h
 | some p =>
  obtain ⟨d,δ1⟩:=p
  rw [e1] at h
  simp only [Q1] at h
  cases e2:fb δ1 with
  | none=>rw [e2] at h; cases h
  | some q =>
   obtain ⟨e,δ2⟩:=q
   rw [e2] at h
   simp only [Q1] at h
   cases e3:g d e with
   | none=>rw [e3] at h; cases h
   | some w =>
    rw [e3] at h
    cases h
    exact ⟨d,δ1,e,rfl,e2,e3⟩
theorem two (ha:EV X a fa Ra Ma) (hb:EV X b fb Rb Mb) (dj:∀ i ∈ Ra,i ∉ Mb:=by decide):∃ ta tb,PE X a ta ∧ PE X b tb ∧
  ∀ (Y:Fx) (F H:Hp) (δ:List Sl) (σ:L2.St) (A:Nat → List Addr),SR X.K Y F H δ σ A → ∀ (z:D) (δ':List Sl),f2 g fa fb δ = some (z,δ') → ∀ Q:V → V → Hp → Prop,
   (∀ x y d e F' H',Stp A (Ma ++ Mb) F H F' H' → SR X.K Y F' H' δ' σ A → Vw X.K F' H' A (Ra ++ Rb) x d → Vw X.K F' H' A (Ra ++ Rb) y e → g d e = some z → Q x y H') → ta σ H fun x H1=>tb σ H1 fun y H2=>Q x y H2:=by
 obtain ⟨ta,pa,qa⟩:=ha
 obtain ⟨tb,pb,qb⟩:=hb
 refine ⟨ta,tb,pa,pb,fun Y F H δ σ A S z δ' e Q k=>?_⟩
 obtain ⟨d,δ1,e',e1,e2,e3⟩:=Q5N e
 refine qa Y F H δ σ A S d δ1 e1 _ fun x F1 H1 st1 S1 r1=>?_
 refine qb Y F1 H1 δ1 σ A S1 e' δ' e2 _ fun y F2 H2 st2 S2 r2=>?_
 refine k x y d e' F2 H2 (st1.trans S1 st2) S2 ?_ (r2.mono fun i hi=>Qf _ hi) e3
 exact (r1.step S1 st2 dj).mono fun i hi=>Qa _ hi
theorem Y3 {A:Nat → List Addr} {M:List Nat} {F H F1 H1 F2 H2:Hp} {K:PySem.W.Frag} {Y:Fx} {δ:List Sl} {σ:L2.St} (S1:SR K Y F1 H1 δ σ A) (h:Stp A M F H F1 H1) (h':Stp A [] F1 H1 F2 H2):Stp A M F H F2 H2:=by
 have:=h.trans S1 h'
 rwa [J7] at this
theorem Jy {op:Operator} (ho:OpR X (binaryOp op) r) (hs:OpS X r g) (ha:EV X a fa Ra Ma) (hb:EV X b fb Rb Mb) (dj:∀ i ∈ Ra,i ∉ Mb:=by decide):EV X (.BinOp a op b pos) (f2 g fa fb) [] (Ma ++ Mb):=by
 obtain ⟨ta,tb,pa,pb,q⟩:=two (g:=g) ha hb dj
 refine ⟨_,pe_op ho pa pb,fun Y F H δ σ A S z δ' e Q k=>?_⟩
 refine q Y F H δ σ A S z δ' e _ fun x y d e F1 H1 st S1 r1 r2 hg=>?_
 refine hs Y F1 H1 δ' σ A _ x y d e z S1 r1 r2 hg Q fun v F2 H2 st2 S2 r3=>?_
 exact k v F2 H2 (Y3 S1 st st2) S2 (.inl r3)
theorem Qe8 {op:Operator} (ho:OpR X (binaryOp op) r) (hs:OpN X r g) (ha:EV X a fa Ra Ma) (hb:EV X b fb Rb Mb) (dj:∀ i ∈ Ra,i ∉ Mb:=by decide):NV X (.BinOp a op b pos) (f2 g fa fb) (Ma ++ Mb):=by
 obtain ⟨ta,tb,pa,pb,q⟩:=two (g:=g) ha hb dj
 refine ⟨_,pe_op ho pa pb,fun Y F H δ σ A S z δ' e Q k=>?_⟩
 refine q Y F H δ σ A S z δ' e _ fun x y d e F1 H1 st S1 r1 r2 hg=>?_
 refine hs Y F1 H1 δ' σ A _ x y d e z S1 r1 r2 hg Q fun v F2 H2 st2 S2 n f3 r3=>?_
 refine k v F2 H2 (Y3 S1 st st2) S2 ?_ f3 r3
 cases e5:H v with
 | none=>rfl
 | some o =>
  by_cases c:∃ i,v ∈ A i
  ·obtain ⟨i,hi⟩:=c
   exact absurd n (S1.isSome hi)
  ·have:=st.kp v o e5 fun i _ hi=>c ⟨i,hi⟩
   rw [n] at this
   cases this
theorem Q0T {op:CmpOp} (ho:OpR X (compareOp op) r) (hs:OpS X r g) (ha:EV X a fa Ra Ma) (hb:EV X b fb Rb Mb) (dj:∀ i ∈ Ra,i ∉ Mb:=by decide) (hm:behindInMarks op b = false:=by rfl):EV X (.Compare a [op] [b] pos) (f2 g fa fb) [] (Ma ++ Mb):=by
 obtain ⟨ta,tb,pa,pb,q⟩:=two (g:=g) ha hb dj
 refine ⟨_,pe_cmpR ho pa pb hm,fun Y F H δ σ A S z δ' e Q k=>?_⟩
 refine q Y F H δ σ A S z δ' e _ fun x y d e F1 H1 st S1 r1 r2 hg=>?_
 refine hs Y F1 H1 δ' σ A _ x y d e z S1 r1 r2 hg Q fun v F2 H2 st2 S2 r3=>?_
 exact k v F2 H2 (Y3 S1 st st2) S2 (.inl r3)
def toB (o:Option (D × List Sl)):Option (Bool × List Sl):=o.bind fun p=>match p.1 with | .bool b=>some (b,p.2) | _=>none
theorem Q0U {o:Option (D × List Sl)} {b:Bool} {δ:List Sl} (h:toB o = some (b,δ)):o = some (.bool b,δ):=by
 unfold toB at h
 cases o with
 | none=>cases h
 | some p =>
  obtain ⟨d,δ1⟩:=p
  cases d <;> simp at h
  obtain ⟨rfl,rfl⟩:=h
  rfl
theorem Q2N {K:PySem.W.Frag} {G:Hp} {v:V} {b:Bool} (h:Rp K G v (.bool b)):v = .bl b:=by
 cases h
 rfl
theorem Yg {op:CmpOp} (ho:OpR X (compareOp op) r) (hs:OpS X r g) (ha:EV X a fa Ra Ma) (hb:EV X b fb Rb Mb) (dj:∀ i ∈ Ra,i ∉ Mb:=by decide) (hm:behindInMarks op b = false:=by rfl):TV X (.Compare a [op] [b] pos) (fun δ=>toB (f2 g fa fb δ)) (Ma ++ Mb):=by
 obtain ⟨ta,tb,pa,pb,q⟩:=two (g:=g) ha hb dj
 refine ⟨_,pt_cmpR ho pa pb hm,fun Y F H δ σ A S z δ' e Q k=>?_⟩
 refine q Y F H δ σ A S _ δ' (Q0U e) _ fun x y d e F1 H1 st S1 r1 r2 hg=>?_
 refine hs Y F1 H1 δ' σ A _ x y d e _ S1 r1 r2 hg _ fun v F2 H2 st2 S2 r3=>?_
 exact ⟨z,Q2N r3,k F2 H2 (Y3 S1 st st2) S2⟩
theorem Wy (h:EV X a fa Ra Ma) (he:∀ whole,isTrue a X.env whole = (do let v ← whole; standAt a.pos; holding [v] (truthy v)):=by intro _; rfl):TV X a (fun δ=>toB (fa δ)) Ma:=by
 obtain ⟨t,p,q⟩:=h
 refine ⟨_,pt_val p he,fun Y F H δ σ A S z δ' e Q k=>?_⟩
 refine q Y F H δ σ A S _ δ' (Q0U e) _ fun v F1 H1 st S1 r1=>?_
 exact ⟨z,r1.bl,k F1 H1 st S1⟩
def Ze (g g':D → D → Option D) (fa fb fc:List Sl → Option (D × List Sl)):List Sl → Option (D × List Sl):=fun δ=>(fa δ).bind fun p=>(fb p.2).bind fun q=>(g p.1 q.1).bind fun z=>match z with
 | .bool true=>(fc q.2).bind fun u=>(g' q.1 u.1).map fun z'=>(z',u.2)
 | .bool false=>some (.bool false,q.2)
 | _=>none
theorem Q6a {op op':CmpOp} {r r':R2} {g g':D → D → Option D} (ho:OpR X (compareOp op) r) (hs:OpS X r g) (ho':OpR X (compareOp op') r') (hs':OpS X r' g') (ha:EV X a fa Ra Ma) (hb:EV X b fb Rb Mb) (hc:EV X c fc Rc Mc)
  (dj:∀ i ∈ Ra,i ∉ Mb:=by decide) (dj2:∀ i ∈ Rb,i ∉ Mc:=by decide) (hm:lastMarks [op,op'] [b,c] = false:=by rfl):EV X (.Compare a [op,op'] [b,c] pos) (Ze g g' fa fb fc) [] (Ma ++ Mb ++ Mc):=by
 obtain ⟨ta,pa,qa⟩:=ha
 obtain ⟨tb,pb,qb⟩:=hb
 obtain ⟨tc,pc,qc⟩:=hc
 refine ⟨_,pe_chain ho ho' pa pb pc hm,fun Y F H δ σ A S z δ' e Q k=>?_⟩
 unfold Ze at e
 cases e1:fa δ with
 | none=>rw [e1] at e; cases e
 | some p =>
  obtain ⟨d,δ1⟩:=p
  rw [e1] at e
  simp only [Q1] at e
  cases e2:fb δ1 with
  | none=>rw [e2] at e; cases e
  | some p =>
   obtain ⟨d2,δ2⟩:=p
   rw [e2] at e
   simp only [Q1] at e
   cases e3:g d d2 with
   | none=>rw [e3] at e; cases e
   | some w =>
    rw [e3] at e
    simp only [Q1] at e
    refine qa Y F H δ σ A S d δ1 e1 _ fun x F1 H1 st1 S1 r1=>?_
    refine qb Y F1 H1 δ1 σ A S1 d2 δ2 e2 _ fun y F2 H2 st2 S2 r2=>?_
    have r1':Vw X.K F2 H2 A (Ra ++ Rb) x d:=(r1.step S1 st2 dj).mono fun i hi=>Qa _ hi
    have r2':Vw X.K F2 H2 A (Ra ++ Rb) y d2:=r2.mono fun i hi=>Qf _ hi
    refine hs Y F2 H2 δ2 σ A _ x y d d2 w S2 r1' r2' e3 _ fun v F3 H3 st3 S3 r3=>?_
    have st:Stp A (Ma ++ Mb) F H F3 H3:=Y3 S2 (st1.trans S1 st2) st3
    cases w with
    | bool k' =>
     refine ⟨k',Q2N r3,?_⟩
     cases k' with
     | false =>
      cases e
      rw [if_neg Bool.false_ne_true]
      exact k _ F3 H3 (st.mono fun i hi=>Qa _ hi) S3 (.inl (.bl _))
     | true =>
      rw [if_pos rfl]
      simp only at e
      cases e4:fc δ2 with
      | none=>rw [e4] at e; cases e
      | some p =>
       obtain ⟨d3,δ3⟩:=p
       rw [e4] at e
       simp only [Q1] at e
       cases e5:g' d2 d3 with
       | none=>rw [e5] at e; cases e
       | some w' =>
        rw [e5] at e
        cases e
        refine qc Y F3 H3 δ2 σ A S3 d3 _ e4 _ fun w1 F4 H4 st4 S4 r4=>?_
        have r2'':Vw X.K F4 H4 A (Rb ++ Rc) y d2:=((r2.step S2 st3 (by simp)).step S3 st4 dj2).mono fun i hi=>Qa _ hi
        have r4':Vw X.K F4 H4 A (Rb ++ Rc) w1 d3:=r4.mono fun i hi=>Qf _ hi
        refine hs' Y F4 H4 δ' σ A _ y w1 d2 d3 _ S4 r2'' r4' e5 Q fun v F5 H5 st5 S5 r5=>?_
        exact k v F5 H5 (Y3 S4 (st.trans S3 st4) st5) S5 (.inl r5)
    | _=>cases e
theorem QaI {op op':CmpOp} {r r':R2} {g g':D → D → Option D} (ho:OpR X (compareOp op) r) (hs:OpS X r g) (ho':OpR X (compareOp op') r') (hs':OpS X r' g') (ha:EV X a fa Ra Ma) (hb:EV X b fb Rb Mb) (hc:EV X c fc Rc Mc)
  (dj:∀ i ∈ Ra,i ∉ Mb:=by decide) (dj2:∀ i ∈ Rb,i ∉ Mc:=by decide) (hm:lastMarks [op,op'] [b,c] = false:=by rfl):TV X (.Compare a [op,op'] [b,c] pos) (fun δ=>toB (Ze g g' fa fb fc δ)) (Ma ++ Mb ++ Mc):=by
 obtain ⟨ta,pa,qa⟩:=ha
 obtain ⟨tb,pb,qb⟩:=hb
 obtain ⟨tc,pc,qc⟩:=hc
 refine ⟨_,pt_chain ho ho' pa pb pc hm,fun Y F H δ σ A S z δ' e Q k=>?_⟩
 have e:=Q0U e
 unfold Ze at e
 cases e1:fa δ with
 | none=>rw [e1] at e; cases e
 | some p =>
  obtain ⟨d,δ1⟩:=p
  rw [e1] at e
  simp only [Q1] at e
  cases e2:fb δ1 with
  | none=>rw [e2] at e; cases e
  | some p =>
   obtain ⟨d2,δ2⟩:=p
   rw [e2] at e
   simp only [Q1] at e
   cases e3:g d d2 with
   | none=>rw [e3] at e; cases e
   | some w =>
    rw [e3] at e
    simp only [Q1] at e
    refine qa Y F H δ σ A S d δ1 e1 _ fun x F1 H1 st1 S1 r1=>?_
    refine qb Y F1 H1 δ1 σ A S1 d2 δ2 e2 _ fun y F2 H2 st2 S2 r2=>?_
    have r1':Vw X.K F2 H2 A (Ra ++ Rb) x d:=(r1.step S1 st2 dj).mono fun i hi=>Qa _ hi
    have r2':Vw X.K F2 H2 A (Ra ++ Rb) y d2:=r2.mono fun i hi=>Qf _ hi
    refine hs Y F2 H2 δ2 σ A _ x y d d2 w S2 r1' r2' e3 _ fun v F3 H3 st3 S3 r3=>?_
    have st:Stp A (Ma ++ Mb) F H F3 H3:=Y3 S2 (st1.trans S1 st2) st3
    cases w with
    | bool k' =>
     refine ⟨k',Q2N r3,?_⟩
     cases k' with
     | false =>
      cases e
      rw [if_neg Bool.false_ne_true]
      exact ⟨false,rfl,k F3 H3 (st.mono fun i hi=>Qa _ hi) S3⟩
     | true =>
      rw [if_pos rfl]
      simp only at e
      cases e4:fc δ2 with
      | none=>rw [e4] at e; cases e
      | some p =>
       obtain ⟨d3,δ3⟩:=p
       rw [e4] at e
       simp only [Q1] at e
       cases e5:g' d2 d3 with
       | none=>rw [e5] at e; cases e
       | some w' =>
        rw [e5] at e
        cases e
        refine qc Y F3 H3 δ2 σ A S3 d3 _ e4 _ fun w1 F4 H4 st4 S4 r4=>?_
        have r2'':Vw X.K F4 H4 A (Rb ++ Rc) y d2:=((r2.step S2 st3 (by simp)).step S3 st4 dj2).mono fun i hi=>Qa _ hi
        have r4':Vw X.K F4 H4 A (Rb ++ Rc) w1 d3:=r4.mono fun i hi=>Qf _ hi
        refine hs' Y F4 H4 δ' σ A _ y w1 d2 d3 _ S4 r2'' r4' e5 _ fun v F5 H5 st5 S5 r5=>?_
        exact ⟨z,Q2N r5,k F5 H5 (Y3 S4 (st.trans S3 st4) st5) S5⟩
    | _=>cases e
variable {ga gb:List Sl → Option (Bool × List Sl)} {rest:List Expr}
def Q5j (ga gb:List Sl → Option (Bool × List Sl)):List Sl → Option (Bool × List Sl):=fun δ=>(ga δ).bind fun p=>match p.1 with | true=>gb p.2 | false=>some (false,p.2)
def gOr (ga gb:List Sl → Option (Bool × List Sl)):List Sl → Option (Bool × List Sl):=fun δ=>(ga δ).bind fun p=>match p.1 with | true=>some (true,p.2) | false=>gb p.2
def Q0t (ga:List Sl → Option (Bool × List Sl)):List Sl → Option (Bool × List Sl):=fun δ=>(ga δ).map fun p=>(!p.1,p.2)
def WV (X:Cx) (e:Expr) (f:List Sl → Option (Bool × List Sl)) (M:List Nat):Prop :=
 ∃ t,PW X e t ∧ ∀ (Y:Fx) (F H:Hp) (δ:List Sl) (σ:L2.St) (A:Nat → List Addr),SR X.K Y F H δ σ A → ∀ (b:Bool) (δ':List Sl),f δ = some (b,δ') → ∀ Q:Bool → Hp → Prop,
  (∀ F' H',Stp A M F H F' H' → SR X.K Y F' H' δ' σ A → Q b H') → t σ H Q
theorem WV.tv {e:Expr} {f M} (h:WV X e f M):TV X e f M:=by
 obtain ⟨t,p,q⟩:=h
 exact ⟨t,p.pt,q⟩
theorem Q8e (ha:TV X a ga Ma):WV X (.BoolOp .And [a] pos) ga Ma:=by
 obtain ⟨t,p,q⟩:=ha
 exact ⟨t,pw_and1 p,q⟩
theorem Q30 (ha:TV X a ga Ma):WV X (.BoolOp .Or [a] pos) ga Ma:=by
 obtain ⟨t,p,q⟩:=ha
 exact ⟨t,pw_or1 p,q⟩
theorem Q7h (ha:TV X a ga Ma) (hb:WV X (.BoolOp .And (b :: rest) pos) gb Mb):WV X (.BoolOp .And (a :: b :: rest) pos) (Q5j ga gb) (Ma ++ Mb):=by
 obtain ⟨ta,pa,qa⟩:=ha
 obtain ⟨tb,pb,qb⟩:=hb
 refine ⟨_,pw_and pa pb,fun Y F H δ σ A S z δ' e Q k=>?_⟩
 unfold Q5j at e
 cases e1:ga δ with
 | none=>rw [e1] at e; cases e
 | some p =>
  obtain ⟨b1,δ1⟩:=p
  rw [e1] at e
  refine qa Y F H δ σ A S b1 δ1 e1 _ fun F1 H1 st1 S1=>?_
  cases b1 with
  | true=>exact iteT (qb Y F1 H1 δ1 σ A S1 z δ' e Q fun F2 H2 st2 S2=>k F2 H2 (st1.trans S1 st2) S2)
  | false =>
   cases e
   exact iteF (k F1 H1 (st1.mono fun i hi=>Qa _ hi) S1)
theorem Q3n (ha:TV X a ga Ma) (hb:WV X (.BoolOp .Or (b :: rest) pos) gb Mb):WV X (.BoolOp .Or (a :: b :: rest) pos) (gOr ga gb) (Ma ++ Mb):=by
 obtain ⟨ta,pa,qa⟩:=ha
 obtain ⟨tb,pb,qb⟩:=hb
 refine ⟨_,pw_or pa pb,fun Y F H δ σ A S z δ' e Q k=>?_⟩
 unfold gOr at e
 cases e1:ga δ with
 | none=>rw [e1] at e; cases e
 | some p =>
  obtain ⟨b1,δ1⟩:=p
  rw [e1] at e
  refine qa Y F H δ σ A S b1 δ1 e1 _ fun F1 H1 st1 S1=>?_
  cases b1 with
  | false=>exact iteF (qb Y F1 H1 δ1 σ A S1 z δ' e Q fun F2 H2 st2 S2=>k F2 H2 (st1.trans S1 st2) S2)
  | true =>
   cases e
   exact iteT (k F1 H1 (st1.mono fun i hi=>Qa _ hi) S1)
theorem Wu (ha:TV X a ga Ma):TV X (.UnaryOp .Not a pos) (Q0t ga) Ma:=by
 obtain ⟨t,p,q⟩:=ha
 refine ⟨_,pt_not p,fun Y F H δ σ A S z δ' e Q k=>?_⟩
 unfold Q0t at e
 cases e1:ga δ with
 | none=>rw [e1] at e; cases e
 | some p =>
  obtain ⟨b1,δ1⟩:=p
  rw [e1] at e
  cases e
  exact q Y F H δ σ A S b1 δ1 e1 _ fun F1 H1 st1 S1=>k F1 H1 st1 S1
def Q2Q (fa fb:List Sl → Option (D × List Sl)):List Sl → Option (D × List Sl):=fun δ=>(toB (fa δ)).bind fun p=>match p.1 with | true=>fb p.2 | false=>some (.bool false,p.2)
def Q9U (fa:List Sl → Option (D × List Sl)):List Sl → Option (D × List Sl):=fun δ=>(toB (fa δ)).map fun p=>(.bool (!p.1),p.2)
theorem Q3v (ha:EV X a fa Ra Ma):EV X (.BoolOp .And [a] pos) fa Ra Ma:=by
 obtain ⟨t,p,q⟩:=ha
 exact ⟨t,pe_one p,q⟩
theorem Q3B (ha:EV X a fa Ra Ma) (hb:EV X (.BoolOp .And (b :: rest) pos) fb Rb Mb):EV X (.BoolOp .And (a :: b :: rest) pos) (Q2Q fa fb) Rb (Ma ++ Mb):=by
 obtain ⟨ta,pa,qa⟩:=ha
 obtain ⟨tb,pb,qb⟩:=hb
 refine ⟨_,pe_and pa pb,fun Y F H δ σ A S z δ' e Q k=>?_⟩
 unfold Q2Q at e
 cases e1:toB (fa δ) with
 | none=>rw [e1] at e; cases e
 | some p =>
  obtain ⟨b1,δ1⟩:=p
  rw [e1] at e
  refine qa Y F H δ σ A S _ δ1 (Q0U e1) _ fun v F1 H1 st1 S1 r1=>?_
  refine ⟨b1,r1.bl,?_⟩
  cases b1 with
  | true=>exact iteT (qb Y F1 H1 δ1 σ A S1 z δ' e Q fun v F2 H2 st2 S2 r2=>k v F2 H2 (st1.trans S1 st2) S2 r2)
  | false =>
   cases e
   exact iteF (k _ F1 H1 (st1.mono fun i hi=>Qa _ hi) S1 (.inl (.bl _)))
theorem QcK (ha:EV X a fa Ra Ma):EV X (.UnaryOp .Not a pos) (Q9U fa) [] Ma:=by
 obtain ⟨t,p,q⟩:=ha
 refine ⟨_,pe_not p,fun Y F H δ σ A S z δ' e Q k=>?_⟩
 unfold Q9U at e
 cases e1:toB (fa δ) with
 | none=>rw [e1] at e; cases e
 | some p =>
  obtain ⟨b1,δ1⟩:=p
  rw [e1] at e
  cases e
  exact q Y F H δ σ A S _ δ1 (Q0U e1) _ fun v F1 H1 st1 S1 r1=>⟨b1,r1.bl,k _ F1 H1 st1 S1 (.inl (.bl _))⟩
def Q1N (gc:List Sl → Option (Bool × List Sl)) (fa fb:List Sl → Option (D × List Sl)):List Sl → Option (D × List Sl):=fun δ=>(gc δ).bind fun p=>match p.1 with | true=>fa p.2 | false=>fb p.2
theorem Q7w {gc} (hc:TV X c gc Mc) (ha:EV X a fa Ra Ma) (hb:EV X b fb Rb Mb):EV X (.IfExp c a b pos) (Q1N gc fa fb) (Ra ++ Rb) (Mc ++ (Ma ++ Mb)):=by
 obtain ⟨tc,pc,qc⟩:=hc
 obtain ⟨ta,pa,qa⟩:=ha
 obtain ⟨tb,pb,qb⟩:=hb
 refine ⟨_,pe_ifExp pc pa pb,fun Y F H δ σ A S z δ' e Q k=>?_⟩
 unfold Q1N at e
 cases e1:gc δ with
 | none=>rw [e1] at e; cases e
 | some p =>
  obtain ⟨b1,δ1⟩:=p
  rw [e1] at e
  refine qc Y F H δ σ A S _ δ1 e1 _ fun F1 H1 st1 S1=>?_
  cases b1 with
  | true=>exact iteT (qa Y F1 H1 δ1 σ A S1 z δ' e Q fun v F2 H2 st2 S2 r2=>k v F2 H2 ((st1.trans S1 st2).mono fun i hi=>by
    rcases Q9.mp hi with h | h
    ·exact Qa _ h
    ·exact Qf _ (Qa _ h)) S2 (r2.mono fun i hi=>Qa _ hi))
  | false=>exact iteF (qb Y F1 H1 δ1 σ A S1 z δ' e Q fun v F2 H2 st2 S2 r2=>k v F2 H2 ((st1.trans S1 st2).mono fun i hi=>by
    rcases Q9.mp hi with h | h
    ·exact Qa _ h
    ·exact Qf _ (Qf _ h)) S2 (r2.mono fun i hi=>Qf _ hi))
theorem Qdy {gc} (hc:TV X c gc Mc) (ha:NV X a fa Ma) (hb:NV X b fb Mb):NV X (.IfExp c a b pos) (Q1N gc fa fb) (Mc ++ (Ma ++ Mb)):=by
 obtain ⟨tc,pc,qc⟩:=hc
 obtain ⟨ta,pa,qa⟩:=ha
 obtain ⟨tb,pb,qb⟩:=hb
 refine ⟨_,pe_ifExp pc pa pb,fun Y F H δ σ A S z δ' e Q k=>?_⟩
 unfold Q1N at e
 have Q4z:∀ {F1 H1 δ1 p},Stp A Mc F H F1 H1 → SR X.K Y F1 H1 δ1 σ A → H1 p = none → H p = none:=fun {F1 H1 δ1 p} st S1 n=>by
  cases e5:H p with
  | none=>rfl
  | some o =>
   by_cases c:∃ i,p ∈ A i
   ·obtain ⟨i,hi⟩:=c
    exact absurd n (S1.isSome hi)
   ·have:=st.kp p o e5 fun i _ hi=>c ⟨i,hi⟩
    rw [n] at this
    cases this
 cases e1:gc δ with
 | none=>rw [e1] at e; cases e
 | some p =>
  obtain ⟨b1,δ1⟩:=p
  rw [e1] at e
  refine qc Y F H δ σ A S _ δ1 e1 _ fun F1 H1 st1 S1=>?_
  cases b1 with
  | true=>exact iteT (qa Y F1 H1 δ1 σ A S1 z δ' e Q fun v F2 H2 st2 S2 n f r2=>k v F2 H2 ((st1.trans S1 st2).mono fun i hi=>by
    rcases Q9.mp hi with h | h
    ·exact Qa _ h
    ·exact Qf _ (Qa _ h)) S2 (Q4z st1 S1 n) f r2)
  | false=>exact iteF (qb Y F1 H1 δ1 σ A S1 z δ' e Q fun v F2 H2 st2 S2 n f r2=>k v F2 H2 ((st1.trans S1 st2).mono fun i hi=>by
    rcases Q9.mp hi with h | h
    ·exact Qa _ h
    ·exact Qf _ (Qf _ h)) S2 (Q4z st1 S1 n) f r2)
theorem SR.give {K:PySem.W.Frag} {Y:Fx} {F F1 H H1:Hp} {δ δ':List Sl} {σ:L2.St} {A:Nat → List Addr} {M:List Nat} {p:Addr} {u:HO} (S:SR K Y F H δ σ A) (S1:SR K Y F1 H1 δ' σ A) (st1:Stp A M F H F1 H1) (n:H p = none) (f:F1 p = none) (hu:H1 p = some u) :
  Stp A M F H (upd F1 p u) H1 ∧ SR K Y (upd F1 p u) H1 δ' σ A ∧ Same F1 (upd F1 p u):=by
 have nA:∀ i,p ∉ A i:=fun i hi=>S.isSome hi n
 have sF:Same F1 (upd F1 p u):=fun b x e=>by rw [upd_ne (ne_of_none e f)]; exact e
 refine ⟨⟨st1.f.trans sF,fun a e1 e2=>?_,st1.kp⟩,⟨S1.len,fun i s e=>(S1.slot i s e).mono sF fun _ _=>rfl,S1.out,S1.dis,fun i a h=>?_,S1.new,fun b x e=>?_,S1.fix,S1.ioA,S1.kp,fun a e1 e2=>?_,S1.f0.trans sF,S1.lio,S1.ob,S1.vno⟩,sF⟩
 ·by_cases c:a = p
  ·subst c; exact n
  ·rw [upd_ne c] at e2; exact st1.nw a e1 e2
 ·rw [upd_ne (fun c=>by subst c; exact nA i h)]; exact S1.hid i a h
 ·by_cases c:b = p
  ·subst c; rw [upd_same] at e; cases e; exact hu
  ·rw [upd_ne c] at e; exact S1.sub _ _ e
 ·by_cases c:a = p
  ·subst c
   cases e3:Y.H0 a with
   | none=>rfl
   | some x =>
    by_cases c2:∃ i,Y.lt i = true ∧ a ∈ Y.A0 i
    ·obtain ⟨i,hi,hA⟩:=c2
     rw [← (S.fix i hi).2] at hA
     exact absurd hA (nA i)
    ·have:=S.kp a x e3 fun i hi z=>c2 ⟨i,hi,z⟩
     rw [n] at this
     cases this
  ·rw [upd_ne c] at e2; exact S1.nw a e1 e2
theorem SR.fresh1 {K:PySem.W.Frag} {Y:Fx} {F H:Hp} {δ:List Sl} {σ:L2.St} {A:Nat → List Addr} (S:SR K Y F H δ σ A) {p:Addr} (n:H p = none):Y.H0 p = none:=by
 cases e3:Y.H0 p with
 | none=>rfl
 | some x =>
  by_cases c2:∃ i,Y.lt i = true ∧ p ∈ Y.A0 i
  ·obtain ⟨i,hi,hA⟩:=c2
   rw [← (S.fix i hi).2] at hA
   exact absurd n (S.isSome hA)
  ·have:=S.kp p x e3 fun i hi z=>c2 ⟨i,hi,z⟩
   rw [n] at this
   cases this
theorem QaS {K:PySem.W.Frag} {Y:Fx} {F F1 H H1:Hp} {δ δ':List Sl} {σ:L2.St} {A:Nat → List Addr} {M:List Nat} {p:Addr} {ds:List (D × D)} (S:SR K Y F H δ σ A) (S1:SR K Y F1 H1 δ' σ A) (st1:Stp A M F H F1 H1) (n:H p = none) (f:F1 p = none) (o:Wz K F1 H1 p (.dict ds)) :
  ∃ u,H1 p = some u ∧ Mut (some u) ∧ ∀ od,Stp A M F H F1 (upd H1 p (.frz od u)) ∧ SR K Y F1 (upd H1 p (.frz od u)) δ' σ A ∧ Q5L K F1 (upd H1 p (.frz od u)) p (.dict ds):=by
 obtain ⟨kvs,h1,h2⟩:=o
 have nA:∀ i,p ∉ A i:=fun i hi=>S.isSome hi n
 refine ⟨_,h1,trivial,fun od=>⟨⟨st1.f,st1.nw,fun a x e hx=>?_⟩,S1.upd_free f nA (S.fresh1 n),od,kvs,upd_same,h2⟩⟩
 rw [upd_ne (ne_of_none e n)]
 exact st1.kp a x e hx
theorem NV.ev (h:NV X a fa Ma):EV X a fa [] Ma:=by
 obtain ⟨t,p,q⟩:=h
 refine ⟨_,Q9l p (Q9M p),fun Y F H δ σ A S z δ' e Q k=>?_⟩
 cases z with
 | dict ds =>
  refine .inr (q Y F H δ σ A S _ δ' e _ fun p F1 H1 st1 S1 n f o=>?_)
  obtain ⟨u,hu,mu,w⟩:=QaS S S1 st1 n f o
  refine ⟨p,u,rfl,hu,mu,fun od=>?_⟩
  obtain ⟨st2,S2,o2⟩:=w od
  obtain ⟨st3,S3,sF⟩:=SR.give S S2 st2 n f upd_same
  exact k _ _ _ st3 S3 (.inl (Qa1 o2 sF (by rw [upd_same,upd_same])))
 | list ds =>
  refine .inl (q Y F H δ σ A S _ δ' e _ fun p F1 H1 st1 S1 n f o=>?_)
  obtain ⟨xs,hu,o2⟩:=id o
  obtain ⟨st3,S3,sF⟩:=SR.give S S1 st1 n f hu
  exact k _ _ _ st3 S3 (.inl (Qa1 (d:=.list ds) ⟨xs,hu,o2⟩ sF (by rw [upd_same,hu])))
 | _=>exact .inl (q Y F H δ σ A S _ δ' e _ fun p F1 H1 st1 S1 n f o=>o.elim)
end
def Xf:List Sl → Option (List D × List Sl):=fun δ=>some ([],δ)
def Js (fa:List Sl → Option (D × List Sl)) (fr:List Sl → Option (List D × List Sl)):List Sl → Option (List D × List Sl):=fun δ=>(fa δ).bind fun p=>(fr p.2).map fun q=>(p.1 :: q.1,q.2)
theorem Jz:AV X [] Xf [] []:=by
 refine ⟨_,pa_nil,fun Y F H δ σ A S d' δ' e Q k=>?_⟩
 cases e
 exact k _ _ _ Stp.refl S trivial
theorem Q3Y {fa fr} {δ δ':List Sl} {ds:List D} (h:Js fa fr δ = some (ds,δ')):∃ d δ1 r,fa δ = some (d,δ1) ∧ fr δ1 = some (r,δ') ∧ ds = d :: r:=by
 unfold Js at h
 cases e1:fa δ with
 | none=>rw [e1] at h; cases h
 | some p =>
  obtain ⟨d,δ1⟩:=p
  rw [e1] at h
  simp only [Q1] at h
  cases e2:fr δ1 with
  | none=>rw [e2] at h; cases h
  | some q =>
   obtain ⟨e,δ2⟩:=q
   rw [e2] at h
   cases h
   exact ⟨d,δ1,e,rfl,e2,rfl⟩
theorem Jn {a:Expr} {es:List Expr} {fa fr} {Ra Rr Ma Mr:List Nat} (ha:EV X a fa Ra Ma) (hr:AV X es fr Rr Mr) (dj:∀ i ∈ Ra,i ∉ Mr:=by decide) (hs:starEach (a :: es) X.env = (false,eval a X.env) :: starEach es X.env:=by rfl):AV X (a :: es) (Js fa fr) (Ra ++ Rr) (Ma ++ Mr):=by
 obtain ⟨ta,pa,qa⟩:=ha
 obtain ⟨tb,pb,qb⟩:=hr
 refine ⟨_,pa_cons pa pb hs,fun Y F H δ σ A S ds δ' e Q k=>?_⟩
 obtain ⟨d,δ1,r,e1,e2,rfl⟩:=Q3Y e
 refine qa Y F H δ σ A S d δ1 e1 _ fun x F1 H1 st1 S1 r1=>?_
 refine qb Y F1 H1 δ1 σ A S1 r δ' e2 _ fun y F2 H2 st2 S2 r2=>?_
 exact k _ F2 H2 (st1.trans S1 st2) S2 ⟨(r1.step S1 st2 dj).mono fun i hi=>Qa _ hi,r2.mono fun i hi=>Qf _ hi⟩
def Ki (f:List Sl → Option (List D × List Sl)):List Sl → Option (D × List Sl):=fun δ=>(f δ).bind fun p=>if p.1.length ≤ sizeLine then some (.tuple p.1,p.2) else none
def W8 (f:List Sl → Option (List D × List Sl)):List Sl → Option (D × List Sl):=fun δ=>(f δ).bind fun p=>if p.1.length ≤ sizeLine then some (.list p.1,p.2) else none
theorem V8 {es:List Expr} {f} {M:List Nat} {x1} (h:AV X es f [] M):EV X (.Tuple es x1 pos) (Ki f) [] M:=by
 obtain ⟨t,p,q⟩:=h
 refine ⟨_,pe_tup p,fun Y F H δ σ A S d δ' e Q k=>?_⟩
 unfold Ki at e
 cases e1:f δ with
 | none=>rw [e1] at e; cases e
 | some p =>
  obtain ⟨ds,δ1⟩:=p
  rw [e1] at e
  simp only [Q1] at e
  split at e
  ·rename_i hz
   cases e
   refine q Y F H δ σ A S ds δ' e1 _ fun vs F1 H1 st S1 r=>?_
   have r:=r.nil
   refine ⟨by rw [r.length]; exact hz,fun p hp=>?_⟩
   exact k _ (upd F1 p (.tup vs)) (upd H1 p (.tup vs)) (Y3 S1 st (Stp.laid S1 hp)) (S1.laid hp) (.inl (.tup (.inl (.inl upd_same)) (r.mono (Stp.laid (M:=[]) S1 hp).f)))
  ·cases e
theorem Yc {es:List Expr} {f} {M:List Nat} (h:AV X es f [] M):NV X (.List es pos) (W8 f) M:=by
 obtain ⟨t,p,q⟩:=h
 refine ⟨_,pe_lst p,fun Y F H δ σ A S d δ' e Q k=>?_⟩
 unfold W8 at e
 cases e1:f δ with
 | none=>rw [e1] at e; cases e
 | some p =>
  obtain ⟨ds,δ1⟩:=p
  rw [e1] at e
  simp only [Q1] at e
  split at e
  ·rename_i hz
   cases e
   refine q Y F H δ σ A S ds δ' e1 _ fun vs F1 H1 st S1 r=>?_
   have r:=r.nil
   refine ⟨by rw [r.length]; exact hz,fun p hp=>?_⟩
   refine k p F1 (upd H1 p (.lst vs)) (Y3 S1 st (Stp.laidO hp)) (S1.laidO hp) ?_ (S1.sub.free hp) ⟨vs,upd_same,r⟩
   cases e5:H p with
   | none=>rfl
   | some o =>
    by_cases c:∃ i,p ∈ A i
    ·obtain ⟨i,hi⟩:=c
     exact absurd hp (S1.isSome hi)
    ·have:=st.kp p o e5 fun i _ hi=>c ⟨i,hi⟩
     rw [hp] at this
     cases this
  ·cases e
end
end Z
namespace Z
open PySem PySem.Spec PyProof.Rows L2
section
variable {X:Cx} {pins:List (Addr × Obj)} {σ:L2.St} {H G:Hp} {s:Shared}
theorem Q4b {h:Heap} {k:Key} {u:Value} (e:keyIs k u = true):Reads h u (Q4e k) []:=by
 rcases keyIs_shape e with ⟨i,t,rfl,rfl⟩ | ⟨x,t,rfl,rfl⟩
 ·exact .int i t
 ·exact .str x t
mutual
theorem Rp.reads (I:Inv X pins σ H s) (g:Same G H):∀ (d:D) (v:V) (u:Value),Rp X.K G v d → RelV v u → ∃ as,Reads s.heap u d as
 | .none,_,_,h,r=>by
  cases h
  cases r
  exact ⟨_,Reads.none⟩
 | .bool b,_,_,h,r=>by
  cases h
  cases r
  exact ⟨_,Reads.bool b⟩
 | .int i,_,_,h,r=>by
  cases h
  obtain ⟨t,rfl⟩:=r
  exact ⟨_,Reads.int i t⟩
 | .str x,_,_,h,r=>by
  cases h
  obtain ⟨t,rfl⟩:=r
  exact ⟨_,Reads.str x t⟩
 | .list ds,_,_,h,r=>by
  cases h with
  | lst hs ha =>
   rename_i p xs
   cases r
   obtain ⟨its,rv,⟨o,n,ho,hc,_,hd⟩,_⟩:=I.list (SqL.of (g _ _ hs))
   obtain ⟨as,hr⟩:=Rp.readsAll I g ds _ its ha rv
   exact ⟨_,Reads.list ho hc hd hr⟩
 | .tuple ds,_,_,h,r=>by
  cases h with
  | tup hs ha =>
   cases r
   obtain ⟨its,rv,⟨o,ho,hc,n,hd⟩,_⟩:=I.tuple (Same.sqt g hs)
   obtain ⟨as,hr⟩:=Rp.readsAll I g ds _ its ha rv
   exact ⟨_,Reads.tuple ho hc hd hr⟩
 | .dict ds,_,_,h,r=>by
  cases h with
  | dic hs ha =>
   cases r
   obtain ⟨_,_,hsm,vs,rel,o,es,ep,ho,hx,hdat,_,hp,_⟩:=I.hok _ _ (g _ _ hs)
   obtain ⟨bs,h1,h2⟩:=Rp.readsKv I g ds _ vs es.toList ha rel hp
   exact ⟨_,Reads.dict ho hx.1 hdat h1 h2⟩
theorem Rp.readsAll (I:Inv X pins σ H s) (g:Same G H):∀ (ds:List D) (vs:List V) (us:List Value),Rps X.K G vs ds → Vals vs us → ∃ as,ReadsAll s.heap us ds as
 | [],_,_,h,r=>by
  cases h
  cases r
  exact ⟨_,ReadsAll.nil⟩
 | d :: ds,_,_,h,r=>by
  cases h with
  | cons h1 h2 =>
   cases r with
   | cons r1 r2 =>
    obtain ⟨as,q1⟩:=Rp.reads I g d _ _ h1 r1
    obtain ⟨bs,q2⟩:=Rp.readsAll I g ds _ _ h2 r2
    exact ⟨_,ReadsAll.cons q1 q2⟩
theorem Rp.readsKv (I:Inv X pins σ H s) (g:Same G H):∀ (ds:List (D × D)) (kvs:List (Key × V)) (vs:List (Key × Value)) (es:List DictEntry),RpK X.K G kvs ds → KV kvs vs → Pairs (mixKind X.prog X.w) es vs →
  ∃ bs,ReadsAll s.heap (es.map (·.key)) (ds.map (·.1)) [] ∧ ReadsAll s.heap (es.map (·.val)) (ds.map (·.2)) bs
 | [],_,_,_,h,r,p=>by
  cases h
  cases r
  cases p
  exact ⟨_,ReadsAll.nil,ReadsAll.nil⟩
 | (dk,dv) :: ds,_,_,_,h,r,p=>by
  cases h with
  | cons h1 h2 =>
   cases r with
   | cons r1 r2 =>
    rename_i q vs'
    obtain ⟨k',u⟩:=q
    obtain ⟨e1,r1⟩:=r1
    simp only at e1
    subst e1
    cases p with
    | cons p1 p2 p3 =>
     obtain ⟨as,q1⟩:=Rp.reads I g dv _ _ h1 r1
     obtain ⟨bs,q2,q3⟩:=Rp.readsKv I g ds _ _ _ h2 r2 p3
     refine ⟨as ++ bs,?_,?_⟩
     ·exact ReadsAll.cons (as:=[]) (bs:=[]) (Q4b p1) q2
     ·rw [Qm,p2]
      exact ReadsAll.cons q1 q3
end
end
section
variable {X:Cx}
def Qav:D → D → Option D
 | .int a,.int b=>some (.int (a + b))
 | .str a,.str b=>if a.length + b.length ≤ sizeLine then some (.str (a ++ b)) else none
 | .tuple a,.tuple b=>if a.length + b.length ≤ sizeLine then some (.tuple (a ++ b)) else none
 | _,_=>none
def QcF:D → D → Option D
 | .list a,.list b=>if a.length + b.length ≤ sizeLine then some (.list (a ++ b)) else none
 | _,_=>none
def Z0:D → D → Option D
 | .int a,.int b=>some (.int (a - b))
 | _,_=>none
def Wq (i:Int):Bool:=decide (-(2 ^ 64) < i) && decide (i < 2 ^ 64)
def Q6Z:D → D → Option D
 | .int a,.int b=>if Wq a || Wq b then some (.int (a * b)) else none
 | .tuple xs,.int k=>if (!xs.isEmpty) && decide (-1000 ≤ k) && decide (k ≤ 1000) && decide (xs.length ≤ 1000) then some (.tuple (Q8 k.toNat xs).flatten) else none
 | _,_=>none
def Q7I:D → D → Option D
 | .list xs,.int k=>if decide (0 ≤ k) && decide (k < 2 ^ 62) && decide (xs.length * k.toNat ≤ sizeLine) then some (.list (Q8 k.toNat xs).flatten) else none
 | _,_=>none
def Q0E:D → D → Option D
 | .int a,.int b=>if decide (0 < b) && decide (b < 1073741824) then some (.int (a / b)) else none
 | _,_=>none
def Kp:D → D → Option D
 | .int a,.int b=>if 0 < b then some (.int (a % b)) else none
 | _,_=>none
def Kv:D → D → Option D
 | .int a,.int b=>if decide (0 ≤ b) && decide (b ≤ 1000000) && decide (a.natAbs < 2 ^ 64) then some (.int (a ^ b.toNat)) else none
 | _,_=>none
def Q9m (K:PySem.W.Frag):R2:=fun x y H Q=>rI0 (fun i j=>.int (i + j)) x y H Q ∨ (∃ i j,x = .str i ∧ y = .str j ∧ i.length + j.length ≤ sizeLine ∧ Q (.str (i ++ j)) H) ∨ rCatA K x y H Q
theorem Qbo:OpR X (binaryOp .Add) (Q9m X.K):=op_add.or (op_add_str.or op_catA)
theorem QcB:OpS X (Q9m X.K) Qav:=by
 intro Y F H δ σ A R x y d e z S rx ry hg Q k
 cases d with
 | int i =>
  cases e with
  | int j =>
   cases hg
   rw [rx.int,ry.int]
   exact .inl ⟨i,j,rfl,rfl,k _ F H Stp.refl S (.int _)⟩
  | _=>cases hg
 | str i =>
  cases e with
  | str j =>
   simp only [Qav] at hg
   split at hg
   ·rename_i hz
    cases hg
    rw [rx.str,ry.str]
    exact .inr (.inl ⟨i,j,rfl,rfl,hz,k _ F H Stp.refl S (.str _)⟩)
   ·cases hg
  | _=>cases hg
 | tuple i =>
  cases e with
  | tuple j =>
   simp only [Qav] at hg
   split at hg
   ·rename_i hz
    cases hg
    obtain ⟨a,xs,rfl,h0,h1,r1⟩:=rx.tup S
    obtain ⟨b,ys,rfl,h3,h2,r2⟩:=ry.tup S
    refine .inr (.inr ⟨a,b,xs,ys,rfl,rfl,h1,h2,by rw [r1.length,r2.length]; exact hz,fun e0=>?_,fun n1 e0=>?_,fun n1 n2 p hp=>?_⟩)
    ·subst e0
     cases r1
     exact k _ F H Stp.refl S (.tup h3 r2)
    ·subst e0
     cases r2
     rw [J7] at k
     exact k _ F H Stp.refl S (.tup h0 r1)
    ·exact k _ _ _ (Stp.laid S hp) (S.laid hp) (.tup (.inl (.inl upd_same)) ((r1.append r2).mono (Stp.laid (M:=[]) S hp).f))
   ·cases hg
  | _=>cases hg
 | _=>cases hg
theorem Rps.rep {K:PySem.W.Frag} {G:Hp} {xs:List V} {ds:List D} (h:Rps K G xs ds):∀ k:Nat,Rps K G (Q8 k xs).flatten (Q8 k ds).flatten
 | 0=>.nil
 | k + 1=>by
  rw [Ji,List.flatten_cons,Ji,List.flatten_cons]
  exact h.append (h.rep k)
theorem QcI:OpN X rRep Q7I:=by
 intro Y F H δ σ A R x y d e z S rx ry hg Q k
 cases d with
 | list i =>
  cases e with
  | int j =>
   simp only [Q7I] at hg
   split at hg
   ·rename_i hz
    cases hg
    simp only [Q6,decide_eq_true_eq] at hz
    obtain ⟨⟨z1,z2⟩,z3⟩:=hz
    obtain ⟨a,xs,rfl,h1,r1⟩:=rx.list S
    rw [ry.int]
    refine ⟨a,j,xs,rfl,rfl,h1,by omega,by omega,by rw [r1.length]; exact z3,fun p hp=>k p F _ (Stp.laidO hp) (S.laidO hp) hp (S.sub.free hp) ⟨_,upd_same,r1.rep _⟩⟩
   ·cases hg
  | _=>cases hg
 | _=>cases hg
theorem Yr:OpS X (rI0 fun i j=>.int (i - j)) Z0:=by
 intro Y F H δ σ A R x y d e z S rx ry hg Q k
 cases d with
 | int i =>
  cases e with
  | int j =>
   cases hg
   rw [rx.int,ry.int]
   exact ⟨i,j,rfl,rfl,k _ F H Stp.refl S (.int _)⟩
  | _=>cases hg
 | _=>cases hg
theorem Q3y:OpS X (rI CDiv fun i j=>.int (i / j)) Q0E:=by
 intro Y F H δ σ A R x y d e z S rx ry hg Q k
 cases d with
 | int i =>
  cases e with
  | int j =>
   simp only [Q0E] at hg
   split at hg
   ·rename_i hz
    cases hg
    simp only [Q6,decide_eq_true_eq] at hz
    rw [rx.int,ry.int]
    exact ⟨i,j,rfl,rfl,hz,k _ F H Stp.refl S (.int _)⟩
   ·cases hg
  | _=>cases hg
 | _=>cases hg
theorem Q1W:OpS X (rI (fun _ j=>0 < j) fun i j=>.int (i % j)) Kp:=by
 intro Y F H δ σ A R x y d e z S rx ry hg Q k
 cases d with
 | int i =>
  cases e with
  | int j =>
   simp only [Kp] at hg
   split at hg
   ·rename_i hz
    cases hg
    rw [rx.int,ry.int]
    exact ⟨i,j,rfl,rfl,hz,k _ F H Stp.refl S (.int _)⟩
   ·cases hg
  | _=>cases hg
 | _=>cases hg
theorem Q0d:OpS X (rI CPow fun i j=>.int (i ^ j.toNat)) Kv:=by
 intro Y F H δ σ A R x y d e z S rx ry hg Q k
 cases d with
 | int i =>
  cases e with
  | int j =>
   simp only [Kv] at hg
   split at hg
   ·rename_i hz
    cases hg
    simp only [Q6,decide_eq_true_eq] at hz
    rw [rx.int,ry.int]
    exact ⟨i,j,rfl,rfl,⟨hz.1.1,hz.1.2,hz.2⟩,k _ F H Stp.refl S (.int _)⟩
   ·cases hg
  | _=>cases hg
 | _=>cases hg
end
end Z
namespace Z
open PySem PySem.Spec PyProof.Rows L2
theorem Qe5 (l:Addr) (items:Array Value) (n:Nat) (sl:Array (Option Value)) (dd:Option Addr) (u:Tok) :
  Meets (Builtin.«tuple.__mul__» ⟨[.ref l,.int 1 u],[]⟩) (fun _ R s=>s.heap.get? l = some { cls:=.type "tuple",dict:=dd,data:=.seq items n,slots:=sl } ∧
   R (.ok (.ret (Value.ref l))) s) :=
 .of_wp fun prog w A R s h=>by
  obtain ⟨hp,g,d,tk,os⟩:=s
  obtain ⟨hl,h⟩:=h
  have f1:=AutoSeq1.idx_int
  have c0:(decide ((1:Int) < -(2 ^ 63)) || decide ((1:Int) ≥ 2 ^ 63)) = false:=by decide
  have c1:(items.isEmpty || ((1:Int) == 1)) = true:=by simp
  wp_walk using wpAny_loadPart' hl
  repeat (first
   | (refine wpAny_ite_false (decide_eq_false (by rw [c0]; exact Bool.false_ne_true)) ?_; wp_walk using wpAny_loadPart' hl)
   | (refine wpAny_ite_true (decide_eq_true c1) ?_; wp_walk using wpAny_loadPart' hl))
  exact ⟨_,rfl,h⟩
theorem QdG (l:Addr) (items:Array Value) (n:Nat) (sl:Array (Option Value)) (dd:Option Addr) (x:Int) (u:Tok) (hx:x ≤ 0) (hx2:-(2 ^ 63) ≤ x) (hne:items.isEmpty = false) :
  Meets (Builtin.«tuple.__mul__» ⟨[.ref l,.int x u],[]⟩) (fun _ R s=>s.heap.get? l = some { cls:=.type "tuple",dict:=dd,data:=.seq items n,slots:=sl } ∧
   R (.ok (.ret (Value.ref s.heap.objs.size))) { s with heap:=s.heap.push { cls:=Value.type "tuple",data:=Data.seq #[] },toks:=s.toks }) :=
 .of_wp fun prog w A R s h=>by
  obtain ⟨hp,g,d,tk,os⟩:=s
  obtain ⟨hl,h⟩:=h
  have f1:=AutoSeq1.idx_int
  have c0:(decide (x < -(2 ^ 63)) || decide (x ≥ 2 ^ 63)) = false:=by
   rw [decide_eq_false (by omega),decide_eq_false (by omega)] <;> rfl
  have c1:(items.isEmpty || x == 1) = false:=by
   rw [hne,Bool.false_or]
   exact beq_eq_false_iff_ne.mpr (by omega)
  have c2:(decide (x ≤ 0) || items.isEmpty) = true:=by
   rw [decide_eq_true hx]
   rfl
  wp_walk using wpAny_loadPart' hl
  repeat (first
   | (refine wpAny_ite_false (decide_eq_false (by rw [c0]; exact Bool.false_ne_true)) ?_; wp_walk using wpAny_loadPart' hl)
   | (refine wpAny_ite_false (decide_eq_false (by rw [c1]; exact Bool.false_ne_true)) ?_; wp_walk using wpAny_loadPart' hl)
   | (refine wpAny_ite_true (decide_eq_true c2) ?_; wp_walk using wpAny_loadPart' hl))
  exact ⟨_,rfl,h⟩
section
variable {X:Cx}
def Qcd (K:PySem.W.Frag):R2:=fun x y H Q=>∃ l k xs,x = .ref l ∧ y = .int k ∧ SqT K H l xs ∧ xs ≠ [] ∧ -1000 ≤ k ∧ k ≤ 1000 ∧ xs.length ≤ 1000 ∧ (k = 1 → Q (.ref l) H) ∧ (k ≠ 1 → ∀ p,H p = none → Q (.ref p) (upd H p (.tup (Q8 k.toNat xs).flatten)))
theorem QbL:OpR X (binaryOp .Mult) (Qcd X.K):=by
 intro pins s σ H x y v u Q I rx ry h
 obtain ⟨l,k,xs,rfl,rfl,hT,hne,h1,h2,hz,q1,q2⟩:=h
 by_cases hk:2 ≤ k
 ·exact op_repT pins s σ H _ _ v u Q I rx ry ⟨l,k,xs,rfl,rfl,hT,hne,hk,h2,hz,q2 (by omega)⟩
 ·cases rx
  obtain ⟨t,rfl⟩:=ry
  obtain ⟨its,r,⟨⟨cls,dd,data,sl⟩,ho,hc,n,hd⟩,hs⟩:=I.tuple hT
  simp only at hc hd
  subst hc hd
  have hi:its.toArray.isEmpty = false:=by
   cases its with
   | nil =>
    cases r
    exact absurd rfl hne
   | cons a b=>rfl
  by_cases hk1:k = 1
  ·subst hk1
   refine wpAny_binaryOp_repeat_ref (T := "tuple") (U := "int") (by decide) ⟨_,ho,rfl⟩ (fun s'=>typeIs_int s' 1 t) noFill_tuple_mul F.fills_int_mul F.slot_int_rmul repeat_tuple F.slot_int_index.lookup
    (call_meets F.slot_int_rmul (typeIs_int s 1 t) F.entry_int_rmul (F.args_int_rmul_2 _ _) (int_rmul_tuple 1 t l its.toArray n dd sl)
     ⟨ho,rfl,⟨_,ho,rfl⟩,call_meets F.slot_tuple_mul ⟨_,ho,rfl⟩ F.entry_tuple_mul (F.args_tuple_mul_2 _ _) (Qe5 l its.toArray n sl dd t) ⟨ho,?_⟩⟩)
   exact ⟨.ref l,H,I,rfl,q1 rfl⟩
  ·refine wpAny_binaryOp_repeat_ref (T := "tuple") (U := "int") (by decide) ⟨_,ho,rfl⟩ (fun s'=>typeIs_int s' k t) noFill_tuple_mul F.fills_int_mul F.slot_int_rmul repeat_tuple F.slot_int_index.lookup
    (call_meets F.slot_int_rmul (typeIs_int s k t) F.entry_int_rmul (F.args_int_rmul_2 _ _) (int_rmul_tuple k t l its.toArray n dd sl)
     ⟨ho,rfl,⟨_,ho,rfl⟩,call_meets F.slot_tuple_mul ⟨_,ho,rfl⟩ F.entry_tuple_mul (F.args_tuple_mul_2 _ _) (QdG l its.toArray n sl dd k t (by omega) (by omega) hi) ⟨ho,?_⟩⟩)
   have e0:(Q8 k.toNat xs).flatten = []:=by
    rw [show k.toNat = 0 by omega]
    rfl
   have q:=q2 hk1
   rw [e0] at q
   exact ⟨.ref s.heap.objs.size,_,I.laid (t':=s.toks) (o:=.tup []) (fun b ob q=>Heap.get?_push_of_some _ q) (J1 _) ⟨Ja _,[],.nil,IsTup.new _ _⟩,rfl,q _ (I.hok.fresh (J1 _))⟩
def QaG (K:PySem.W.Frag):R2:=fun x y H Q=>rI CMul (fun i j=>.int (i * j)) x y H Q ∨ Qcd K x y H Q
theorem Qcb:OpR X (binaryOp .Mult) (QaG X.K):=op_mul.or QbL
theorem Qdo:OpS X (QaG X.K) Q6Z:=by
 intro Y F H δ σ A R x y d e z S rx ry hg Q k
 cases d with
 | int i =>
  cases e with
  | int j =>
   simp only [Q6Z] at hg
   split at hg
   ·rename_i hz
    cases hg
    rw [rx.int,ry.int]
    refine .inl ⟨i,j,rfl,rfl,?_,k _ F H Stp.refl S (.int _)⟩
    simp only [Wq,J8,Q6,decide_eq_true_eq] at hz
    exact hz
   ·cases hg
  | _=>cases hg
 | tuple i =>
  cases e with
  | int j =>
   simp only [Q6Z] at hg
   split at hg
   ·rename_i hz
    cases hg
    simp only [Q6,decide_eq_true_eq,Bool.not_eq_true'] at hz
    obtain ⟨⟨⟨z1,z0⟩,z2⟩,z3⟩:=hz
    obtain ⟨a,xs,rfl,h0,h1,r1⟩:=rx.tup S
    rw [ry.int]
    refine .inr ⟨a,j,xs,rfl,rfl,h1,?_,z0,z2,by rw [r1.length]; exact z3,fun e1=>?_,fun e1 p hp=>?_⟩
    ·intro e0
     subst e0
     cases r1
     cases z1
    ·subst e1
     exact k _ F H Stp.refl S (.tup h0 (by simpa using r1))
    ·exact k _ _ _ (Stp.laid S hp) (S.laid hp) (.tup (.inl (.inl upd_same)) ((r1.rep _).mono (Stp.laid (M:=[]) S hp).f))
   ·cases hg
  | _=>cases hg
 | _=>cases hg
end
end Z
namespace Z
open PySem PySem.Spec PyProof.Rows L2
theorem DGet.f {H:Hp} {a:Addr} {o:Obj} {kvs:List (Key × V)} {k:Key} (e:H a = some (.frz o (.dK kvs))):DGet H a (kV k) (valV kvs k):=.inl ⟨kvs,k,.inr ⟨o,e⟩,rfl,rfl⟩
def Vg:D → Option Key
 | .int i=>some (.inl i)
 | .str s=>some (.inr s)
 | _=>none
theorem Zn (k:Key):Vg (Q4e k) = some k:=by cases k <;> rfl
def Q3M (ds:List (D × D)) (k:Key):Option D:=(ds.find? fun p=>decide (Vg p.1 = some k)).map (·.2)
theorem RpK.val {K:PySem.W.Frag} {G:Hp}:∀ {kvs:List (Key × V)} {ds:List (D × D)} (k:Key),RpK K G kvs ds → (valV kvs k = none ∧ Q3M ds k = none) ∨ ∃ v d,valV kvs k = some v ∧ Q3M ds k = some d ∧ Rp K G v d
 | _,_,_,.nil=>.inl ⟨rfl,rfl⟩
 | _,_,k,.cons (k:=k0) (v:=v0) (r:=r0) (d:=d0) (ds:=ds0) h r=>by
  by_cases e:k0 = k
  ·refine .inr ⟨_,_,valV_pos e,?_,h⟩
   unfold Q3M
   rw [List.find?_cons_of_pos (by rw [Zn,e]; simp)]
   rfl
  ·have e1:Q3M ((Q4e k0,d0) :: ds0) k = Q3M ds0 k:=by
    unfold Q3M
    rw [List.find?_cons_of_neg (by rw [Zn]; simpa using e)]
   rw [valV_neg (p:=(k0,v0)) e,e1]
   exact r.val k
def shp (d:D):Bool:=d.plain && decide (d.depth ≤ 64)
def eqD (d e:D):Option Bool:=if shp d && shp e then some (Jh d e) else none
def neD (d e:D):Option Bool:=(eqD d e).map (!·)
def ltD:D → D → Option Bool
 | .int a,.int b=>some (decide (a < b))
 | .tuple a,.tuple b=>if PySem.W.alike (.tuple a) (.tuple b) && decide ((PyData.tuple a).depth ≤ 64) then some (PySem.W.dataLt (.tuple a) (.tuple b)) else none
 | _,_=>none
def leD:D → D → Option Bool
 | .int a,.int b=>some (decide (a ≤ b))
 | _,_=>none
def gtD:D → D → Option Bool
 | .int a,.int b=>some (decide (b < a))
 | _,_=>none
def geD:D → D → Option Bool
 | .int a,.int b=>some (decide (b ≤ a))
 | _,_=>none
def inD (d:D):D → Option Bool
 | .list ds=>if shp d && shp (.list ds) then some (ds.any fun z=>Jh z d) else none
 | .tuple ds=>if shp d && shp (.tuple ds) then some (ds.any fun z=>Jh z d) else none
 | .dict ds=>(Vg d).map fun k=>(Q3M ds k).isSome
 | .str z=>match d with
  | .str x=>some (!(Builtin.Str.occurrences z x 0 z.length 1).isEmpty)
  | _=>none
 | _=>none
section
variable {X:Cx}
def Q5K (X:Cx) (op:CmpOp) (g:D → D → Option Bool):Prop :=
 ∀ (pins:List (Addr × Obj)) (s:Shared) (σ:L2.St) (H:Hp) (x y:V) (v u:Value) (Q:VK),L2.Inv X pins σ H s → RelV x v → RelV y u → ∀ (G:Hp) (d e:D) (b:Bool),Same G H → Rp X.K G x d → Rp X.K G y e → g d e = some b → Q (.bl b) H →
  wpAny (model X.prog X.w) X.A (compareOp op v u) (EP X pins σ Q) X.xe s
def Qcz (X:Cx) (g:D → D → Option Bool):R2:=fun x y H Q=>∃ G d e b,Same G H ∧ Rp X.K G x d ∧ Rp X.K G y e ∧ g d e = some b ∧ Q (.bl b) H
def bD (g:D → D → Option Bool):D → D → Option D:=fun d e=>(g d e).map Qg
theorem Q5K.op {op:CmpOp} {g} (h:Q5K X op g):OpR X (compareOp op) (Qcz X g):=by
 intro pins s σ H x y v u Q I rx ry q
 obtain ⟨G,d,e,b,sG,r1,r2,hg,q⟩:=q
 exact h pins s σ H x y v u Q I rx ry G d e b sG r1 r2 hg q
theorem Xr {g}:OpS X (Qcz X g) (bD g):=by
 intro Y F H δ σ A R x y d e z S rx ry hg Q k
 unfold bD at hg
 cases e1:g d e with
 | none=>rw [e1] at hg; cases hg
 | some b =>
  rw [e1] at hg
  cases hg
  exact ⟨_,d,e,b,Q0o S,rx.ex S,ry.ex S,e1,k _ F H Stp.refl S (.bl _)⟩
theorem Wd {d:D} (h:shp d = true):d.plain = true:=by
 unfold shp at h
 rw [Q6] at h
 exact h.1
theorem Q1p {d:D} (h:shp d = true):d.depth ≤ 64:=by
 unfold shp at h
 rw [Q6,decide_eq_true_eq] at h
 exact h.2
theorem Q9i {ds:List D} (h:shp (.list ds) = true):Jc ds = true:=Wd h
theorem Q7r {ds:List D} (h:shp (.tuple ds) = true):Jc ds = true:=Wd h
theorem Q0j (hu:X.A.units + 65 < cLine):Q5K X .Eq eqD:=by
 intro pins s σ H x y v u Q I rx ry G d e b sG r1 r2 hg q
 unfold eqD at hg
 split at hg
 ·rename_i c
  cases hg
  rw [Q6] at c
  obtain ⟨as,q1⟩:=Rp.reads I sG d x v r1 rx
  obtain ⟨bs,q2⟩:=Rp.reads I sG e y u r2 ry
  exact SeqAt.eq_plain q1 q2 (Wd c.1) (Wd c.2) (by have:=Q1p c.1; have:min d.depth e.depth ≤ d.depth:=Nat.min_le_left _ _; omega) ⟨.bl _,H,I,rfl,q⟩
 ·cases hg
theorem Q1b (hu:X.A.units + 65 < cLine):Q5K X .NotEq neD:=by
 intro pins s σ H x y v u Q I rx ry G d e b sG r1 r2 hg q
 unfold neD eqD at hg
 split at hg
 ·rename_i c
  cases hg
  rw [Q6] at c
  obtain ⟨as,q1⟩:=Rp.reads I sG d x v r1 rx
  obtain ⟨bs,q2⟩:=Rp.reads I sG e y u r2 ry
  exact SeqAt.ne_plain q1 q2 (Wd c.1) (Wd c.2) (by have:=Q1p c.1; have:min d.depth e.depth ≤ d.depth:=Nat.min_le_left _ _; omega) ⟨.bl _,H,I,rfl,q⟩
 ·cases hg
theorem Q68 (hu:X.A.units + 65 < cLine):Q5K X .Lt ltD:=by
 intro pins s σ H x y v u Q I rx ry G d e b sG r1 r2 hg q
 unfold ltD at hg
 split at hg
 ·cases hg
  cases r1
  cases r2
  exact op_lt pins s σ H _ _ v u Q I rx ry ⟨_,_,rfl,rfl,q⟩
 ·rename_i a b'
  split at hg
  ·rename_i c
   cases hg
   rw [Q6] at c
   obtain ⟨as,q1⟩:=Rp.reads I sG (.tuple a) x v r1 rx
   obtain ⟨bs,q2⟩:=Rp.reads I sG (.tuple b') y u r2 ry
   have h1:=of_decide_eq_true c.2
   have h2:min (PyData.tuple a).depth (PyData.tuple b').depth ≤ (PyData.tuple a).depth:=Nat.min_le_left _ _
   exact PySem.W.rcLt_alike (.tuple a) (.tuple b') X.A s v u as bs q1 q2 c.1 (by simp) (by omega) X.prog X.w X.xe _ ⟨.bl _,H,I,rfl,q⟩
  ·cases hg
 ·cases hg
theorem Q3E:Q5K X .LtE leD:=by
 intro pins s σ H x y v u Q I rx ry G d e b sG r1 r2 hg q
 unfold leD at hg
 split at hg
 ·cases hg
  cases r1
  cases r2
  exact op_le pins s σ H _ _ v u Q I rx ry ⟨_,_,rfl,rfl,q⟩
 ·cases hg
theorem QdT:Q5K X .Gt gtD:=by
 intro pins s σ H x y v u Q I rx ry G d e b sG r1 r2 hg q
 unfold gtD at hg
 split at hg
 ·cases hg
  cases r1
  cases r2
  exact op_gt pins s σ H _ _ v u Q I rx ry ⟨_,_,rfl,rfl,q⟩
 ·cases hg
theorem QdI:Q5K X .GtE geD:=by
 intro pins s σ H x y v u Q I rx ry G d e b sG r1 r2 hg q
 unfold geD at hg
 split at hg
 ·cases hg
  cases r1
  cases r2
  exact op_ge pins s σ H _ _ v u Q I rx ry ⟨_,_,rfl,rfl,q⟩
 ·cases hg
theorem Q44 {K:PySem.W.Frag} {G:Hp} {x:V} {d:D} {k:Key} (h:Vg d = some k) (r:Rp K G x d):x = kV k:=by
 cases r with
 | int i=>cases h; rfl
 | str i=>cases h; rfl
 | _=>cases h
theorem QdD (hu:X.A.units + 65 < cLine):Q5K X .In inD:=by
 intro pins s σ H x y v u Q I rx ry G d e b sG r1 r2 hg q
 obtain ⟨as,q1⟩:=Rp.reads I sG d x v r1 rx
 unfold inD at hg
 split at hg
 ·split at hg
  ·rename_i ds c
   cases hg
   rw [Q6] at c
   obtain ⟨bs,q2⟩:=Rp.reads I sG (.list ds) y u r2 ry
   exact SeqAt.in_list_data q2 q1 (Q9i c.2) (Wd c.1) (by have:=Q1p c.1; have:min (Qv ds) d.depth ≤ d.depth:=Nat.min_le_right _ _; omega) ⟨.bl _,H,I,rfl,q⟩
  ·cases hg
 ·split at hg
  ·rename_i ds c
   cases hg
   rw [Q6] at c
   obtain ⟨bs,q2⟩:=Rp.reads I sG (.tuple ds) y u r2 ry
   exact SeqAt.in_tuple_data q2 q1 (Q7r c.2) (Wd c.1) (by have:=Q1p c.1; have:min (Qv ds) d.depth ≤ d.depth:=Nat.min_le_right _ _; omega) ⟨.bl _,H,I,rfl,q⟩
  ·cases hg
 ·rename_i ds
  cases e1:Vg d with
  | none=>rw [e1] at hg; cases hg
  | some k =>
   rw [e1] at hg
   cases hg
   cases r2 with
   | dic h1 rk =>
    cases ry
    have ex:=Q44 e1 r1
    subst ex
    refine d_in (by omega) I (DGet.f (sG _ _ h1)) rx fun s' I'=>⟨.bl _,H,I',rfl,?_⟩
    rcases rk.val k with ⟨v1,v2⟩ | ⟨v0,d0,v1,v2,_⟩
    ·simp only [v2] at q; rw [v1]; exact q
    ·simp only [v2] at q; rw [v1]; exact q
 ·split at hg
  ·cases hg
   cases r1
   cases r2
   exact op_in_str pins s σ H _ _ v u Q I rx ry ⟨_,_,rfl,rfl,q⟩
  ·cases hg
 ·cases hg
end
end Z
namespace Z
open PySem PySem.Spec PyProof.Rows L2
section
variable {X:Cx} {pos:Pos}
theorem SR.seen {K:PySem.W.Frag} {Y:Fx} {F H:Hp} {δ:List Sl} {σ:L2.St} {A:Nat → List Addr} (S:SR K Y F H δ σ A) {p:Addr} {o:HO} (hp:H p = none):SR K Y (upd F p o) (upd H p o) δ σ A:=S.laid hp
def Y8 (d e:D):Option D:=(Qav d e).or (QcF d e)
def Y6 (d e:D):Option D:=(Q6Z d e).or (Q7I d e)
def QcA (K:PySem.W.Frag):R2:=fun x y H Q=>Q9m K x y H Q ∨ rCat x y H Q
theorem X9:OpR X (binaryOp .Add) (QcA X.K):=Qbo.or op_cat
theorem Q8Z {d e z:D} (h:QcF d e = some z):∃ a b,d = .list a ∧ e = .list b ∧ a.length + b.length ≤ sizeLine ∧ z = .list (a ++ b):=by
 unfold QcF at h
 split at h
 ·split at h
  ·rename_i hz
   cases h
   exact ⟨_,_,rfl,rfl,hz,rfl⟩
  ·cases h
 ·cases h
theorem Xa:OpS X (QcA X.K) Y8:=by
 intro Y F H δ σ A R x y d e z S rx ry hg Q k
 unfold Y8 at hg
 cases e1:Qav d e with
 | some w =>
  rw [e1] at hg
  cases hg
  exact .inl (QcB Y F H δ σ A R x y d e _ S rx ry e1 Q k)
 | none =>
  rw [e1] at hg
  obtain ⟨i,j,rfl,rfl,hz,rfl⟩:=Q8Z hg
  obtain ⟨a,xs,rfl,h1,r1⟩:=rx.list S
  obtain ⟨b,ys,rfl,h2,r2⟩:=ry.list S
  exact .inr ⟨a,b,xs,ys,rfl,rfl,h1,h2,by rw [r1.length,r2.length]; exact hz,fun p hp=>k _ _ _ (Stp.laid S hp) (S.laid hp) (.lst upd_same ((r1.append r2).mono (Stp.laid (M:=[]) S hp).f))⟩
def Qck (K:PySem.W.Frag):R2:=fun x y H Q=>QaG K x y H Q ∨ rRep x y H Q
theorem Xh:OpR X (binaryOp .Mult) (Qck X.K):=Qcb.or op_rep
theorem Q9h {d e z:D} (h:Q7I d e = some z):∃ xs k,d = .list xs ∧ e = .int k ∧ 0 ≤ k ∧ k < 2 ^ 62 ∧ xs.length * k.toNat ≤ sizeLine ∧ z = .list (Q8 k.toNat xs).flatten:=by
 unfold Q7I at h
 split at h
 ·split at h
  ·rename_i hz
   cases h
   simp only [Q6,decide_eq_true_eq] at hz
   exact ⟨_,_,rfl,rfl,hz.1.1,hz.1.2,hz.2,rfl⟩
  ·cases h
 ·cases h
theorem Xg:OpS X (Qck X.K) Y6:=by
 intro Y F H δ σ A R x y d e z S rx ry hg Q k
 unfold Y6 at hg
 cases e1:Q6Z d e with
 | some w =>
  rw [e1] at hg
  cases hg
  exact .inl (Qdo Y F H δ σ A R x y d e _ S rx ry e1 Q k)
 | none =>
  rw [e1] at hg
  obtain ⟨i,j,rfl,rfl,z1,z2,hz,rfl⟩:=Q9h hg
  obtain ⟨a,xs,rfl,h1,r1⟩:=rx.list S
  rw [ry.int]
  exact .inr ⟨a,j,xs,rfl,rfl,h1,by omega,by omega,by rw [r1.length]; exact hz,fun p hp=>k _ _ _ (Stp.laid S hp) (S.laid hp) (.lst upd_same ((r1.rep _).mono (Stp.laid (M:=[]) S hp).f))⟩
def Qdq:D → Option D
 | .int i=>some (.int (-i))
 | _=>none
def f1 (g:D → Option D) (fa:List Sl → Option (D × List Sl)):List Sl → Option (D × List Sl):=fun δ=>(fa δ).bind fun p=>(g p.1).map fun z=>(z,p.2)
theorem Q8B {g:D → Option D} {fa:List Sl → Option (D × List Sl)} {δ δ':List Sl} {z:D} (h:f1 g fa δ = some (z,δ')):∃ d,fa δ = some (d,δ') ∧ g d = some z:=by
 unfold f1 at h
 cases e1:fa δ with
 | none=>rw [e1] at h; cases h
 | some p =>
  obtain ⟨d,δ1⟩:=p
  rw [e1] at h
  simp only [Q1] at h
  cases e3:g d with
  | none=>rw [e3] at h; cases h
  | some w =>
   rw [e3] at h
   cases h
   exact ⟨d,rfl,e3⟩
theorem Qd6 {a:Expr} {fa} {R M:List Nat} (ha:EV X a fa R M):EV X (.UnaryOp .USub a pos) (f1 Qdq fa) [] M:=by
 obtain ⟨t,p,q⟩:=ha
 refine ⟨_,pe_un un_neg p,fun Y F H δ σ A S z δ' e Q k=>?_⟩
 obtain ⟨d,e1,e2⟩:=Q8B e
 refine q Y F H δ σ A S d δ' e1 _ fun v F1 H1 st S1 r=>?_
 cases d with
 | int i =>
  cases e2
  exact ⟨i,r.int,k _ F1 H1 st S1 (.inl (.int _))⟩
 | _=>cases e2
def QdR:R2:=fun x y H Q=>∃ a v,x = .ref a ∧ DGet H a y (some v) ∧ Q v H
theorem Qb1 (hu:X.A.units + 1 < cLine):IxR X QdR:=by
 intro value slice pins s σ H x y v u Q I rx ry h hs
 obtain ⟨a,z,rfl,g,q⟩:=h
 cases rx
 exact tail_any (dict_typeIs I g) PySem.F.slot_dict_getitem.lookup (d_getItem hu I g ry fun w' s' I' r'=>⟨z,H,I',r',q⟩) hs
def QdU (K:PySem.W.Frag):R2:=fun x y H Q=>rIx K x y H Q ∨ QdR x y H Q
theorem Q9a (hu:X.A.units + 1 < cLine):IxR X (QdU X.K):=ix_seq.or (Qb1 hu)
def Ye:D → D → Option D
 | .list ds,.int i=>atI ds i
 | .tuple ds,.int i=>atI ds i
 | .str z,.int i=>if z.length ≤ sizeLine then (atI z.cps.toList i).map fun c=>.str ⟨#[c]⟩ else none
 | .dict ds,k=>(Vg k).bind (Q3M ds)
 | _,_=>none
theorem Rps.at {K:PySem.W.Frag} {G:Hp} {xs:List V} {ds:List D} {i:Int} {d:D} (h:Rps K G xs ds) (e:atI ds i = some d):∃ v,atI xs i = some v ∧ Rp K G v d:=by
 unfold atI at e ⊢
 rw [h.length]
 cases e1:ixN ds.length i with
 | none=>rw [e1] at e; cases e
 | some j =>
  rw [e1] at e
  exact h.get e
theorem Qd0:OpS X (QdU X.K) Ye:=by
 intro Y F H δ σ A R x y d e z S rx ry hg Q k
 unfold Ye at hg
 split at hg
 ·rename_i ds i
  obtain ⟨a,xs,rfl,h1,r1⟩:=rx.list S
  obtain ⟨v,e1,r⟩:=r1.at hg
  rw [ry.int]
  exact .inl (.inl ⟨a,xs,i,v,rfl,rfl,SqL.of h1,e1,k v F H Stp.refl S r⟩)
 ·rename_i ds i
  obtain ⟨a,xs,rfl,_,h1,r1⟩:=rx.tup S
  obtain ⟨v,e1,r⟩:=r1.at hg
  rw [ry.int]
  exact .inl (.inr (.inl ⟨a,xs,i,v,rfl,rfl,h1,e1,k v F H Stp.refl S r⟩))
 ·rename_i zz i
  split at hg
  ·rename_i hz
   rw [rx.str,ry.int]
   cases e1:atI zz.cps.toList i with
   | none=>rw [e1] at hg; cases hg
   | some c =>
    rw [e1] at hg
    cases hg
    exact .inl (.inr (.inr ⟨zz,i,c,rfl,rfl,hz,e1,k _ F H Stp.refl S (.str _)⟩))
  ·cases hg
 ·rename_i ds _
  cases e1:Vg e with
  | none=>rw [e1] at hg; cases hg
  | some k' =>
   rw [e1] at hg
   obtain ⟨a,_,kvs,rfl,h1,r1⟩:=rx.dict S
   have ey:=Q44 e1 (ry.ex S)
   subst ey
   rcases r1.val k' with ⟨_,v2⟩ | ⟨v0,d0,v1,v2,r0⟩
   ·simp only [Q1] at hg
    rw [v2] at hg; cases hg
   ·simp only [Q1] at hg
    rw [v2] at hg; cases hg
    refine .inr ⟨a,v0,rfl,?_,k v0 F H Stp.refl S r0⟩
    rw [← v1]
    exact DGet.f h1
 ·cases hg
theorem Xw {a b:Expr} {fa fb} {Ra Rb Ma Mb:List Nat} (hu:X.A.units + 1 < cLine) (ha:EV X a fa Ra Ma) (hb:EV X b fb Rb Mb) (dj:∀ i ∈ Ra,i ∉ Mb:=by decide) (hs:PlainIx b:=by intro _ _; rfl):EV X (.Subscript a b pos) (f2 Ye fa fb) [] (Ma ++ Mb):=by
 obtain ⟨ta,tb,pa,pb,q⟩:=two (g:=Ye) ha hb dj
 refine ⟨_,pe_ix (Q9a hu) pa pb hs,fun Y F H δ σ A S z δ' e Q k=>?_⟩
 refine q Y F H δ σ A S z δ' e _ fun x y d e F1 H1 st S1 r1 r2 hg=>?_
 refine Qd0 Y F1 H1 δ' σ A _ x y d e z S1 r1 r2 hg Q fun v F2 H2 st2 S2 r3=>?_
 exact k v F2 H2 (Y3 S1 st st2) S2 (.inl r3)
def OV (X:Cx) (e:Option Expr) (f:List Sl → Option (Option Int × List Sl)) (M:List Nat):Prop :=
 ∃ t,PO X e t ∧ ∀ (Y:Fx) (F H:Hp) (δ:List Sl) (σ:L2.St) (A:Nat → List Addr),SR X.K Y F H δ σ A → ∀ (d:Option Int) (δ':List Sl),f δ = some (d,δ') → ∀ Q:Option Int → Hp → Prop,
  (∀ F' H',Stp A M F H F' H' → SR X.K Y F' H' δ' σ A → Q d H') → t σ H Q
def Q0O:List Sl → Option (Option Int × List Sl):=fun δ=>some (none,δ)
def Vh (fa:List Sl → Option (D × List Sl)):List Sl → Option (Option Int × List Sl):=fun δ=>(fa δ).bind fun p=>match p.1 with | .int i=>some (some i,p.2) | _=>none
theorem Ko:OV X none Q0O []:=by
 refine ⟨_,po_none,fun Y F H δ σ A S d δ' e Q k=>?_⟩
 cases e
 exact k F H Stp.refl S
theorem Yu {a:Expr} {fa} {R M:List Nat} (ha:EV X a fa R M):OV X (some a) (Vh fa) M:=by
 obtain ⟨t,p,q⟩:=ha
 refine ⟨_,po_some p,fun Y F H δ σ A S d δ' e Q k=>?_⟩
 unfold Vh at e
 cases e1:fa δ with
 | none=>rw [e1] at e; cases e
 | some p =>
  obtain ⟨d1,δ1⟩:=p
  rw [e1] at e
  refine q Y F H δ σ A S d1 δ1 e1 _ fun v F1 H1 st S1 r=>?_
  cases d1 with
  | int i =>
   cases e
   exact ⟨i,r.int,k F1 H1 st S1⟩
  | _=>cases e
def Xi {α:Type} (xs:List α) (lo hi:Option Int):List α:=(xs.drop (HT.sIx xs.length 0 lo)).take (HT.sIx xs.length xs.length hi - HT.sIx xs.length 0 lo)
theorem Rps.cut {K:PySem.W.Frag} {G:Hp} {xs:List V} {ds:List D} (h:Rps K G xs ds) (lo hi:Option Int):Rps K G (cutV xs lo hi) (Xi ds lo hi):=by
 unfold cutV Xi
 rw [h.length]
 exact (h.drop _).take _
def Q0I (d:D) (lo hi:Option Int):Option D :=
 match d with
 | .list ds=>some (.list (Xi ds lo hi))
 | .tuple ds=>some (.tuple (Xi ds lo hi))
 | .str z=>if z.length ≤ sizeLine then some (.str (cutS z lo hi)) else none
 | _=>none
def f3 (g:D → Option Int → Option Int → Option D) (fa:List Sl → Option (D × List Sl)) (fl fh:List Sl → Option (Option Int × List Sl)):List Sl → Option (D × List Sl):=fun δ=>(fa δ).bind fun p=>(fl p.2).bind fun q=>(fh q.2).bind fun r=>(g p.1 q.1 r.1).map fun z=>(z,r.2)
theorem Qby {g:D → Option Int → Option Int → Option D} {fa fl fh} {δ δ':List Sl} {z:D} (h:f3 g fa fl fh δ = some (z,δ')):∃ d δ1 lo δ2 hi,fa δ = some (d,δ1) ∧ fl δ1 = some (lo,δ2) ∧ fh δ2 = some (hi,δ') ∧ g d lo hi = some z:=by
 unfold f3 at h
 cases e1:fa δ with
 | none=>rw [e1] at h; cases h
 | some p =>
  obtain ⟨d,δ1⟩:=p
  rw [e1] at h
  simp only [Q1] at h
  cases e2:fl δ1 with
  | none=>rw [e2] at h; cases h
  | some q =>
   obtain ⟨lo,δ2⟩:=q
   rw [e2] at h
   simp only [Q1] at h
   cases e3:fh δ2 with
   | none=>rw [e3] at h; cases h
   | some q =>
    obtain ⟨hi,δ3⟩:=q
    rw [e3] at h
    simp only [Q1] at h
    cases e4:g d lo hi with
    | none=>rw [e4] at h; cases h
    | some w =>
     rw [e4] at h
     cases h
     exact ⟨d,δ1,lo,δ2,hi,rfl,e2,e3,e4⟩
def rSl3 (K:PySem.W.Frag):V → Option Int → Option Int → Hp → VK → Prop:=fun x lo hi H Q=>rSlL K x lo hi H Q ∨ rSlA K x lo hi H Q ∨ ∃ z,x = .str z ∧ z.length ≤ sizeLine ∧ Q (.str (cutS z lo hi)) H
theorem Qca {α:Type} (xs:List α) (lo hi:Option Int) (h:HT.sIx xs.length 0 lo = 0 ∧ HT.sIx xs.length xs.length hi = xs.length):Xi xs lo hi = xs:=by
 unfold Xi
 rw [h.1,h.2]
 simp
theorem sl_3:SlR X (rSl3 X.K):=sl_list.or (sl_tupA.or sl_str)
theorem V2 {a:Expr} {lo hi:Option Expr} {fa fl fh} {R M Ml Mh:List Nat} {p2:Pos} (ha:EV X a fa R M) (hl:OV X lo fl Ml) (hh:OV X hi fh Mh) (d1:∀ i ∈ R,i ∉ Ml:=by decide) (d2:∀ i ∈ R,i ∉ Mh:=by decide):EV X (.Subscript a (.Slice lo hi none p2) pos) (f3 Q0I fa fl fh) [] (M ++ Ml ++ Mh):=by
 obtain ⟨t,p,q⟩:=ha
 obtain ⟨tl,pl,ql⟩:=hl
 obtain ⟨th,ph,qh⟩:=hh
 refine ⟨_,pe_slice sl_3 p pl ph,fun Y F H δ σ A S z δ' e Q k=>?_⟩
 obtain ⟨d,δ1,l,δ2,h,e1,e2,e3,e4⟩:=Qby e
 refine q Y F H δ σ A S d δ1 e1 _ fun x F1 H1 st1 S1 r1=>?_
 refine ql Y F1 H1 δ1 σ A S1 l δ2 e2 _ fun F2 H2 st2 S2=>?_
 refine qh Y F2 H2 δ2 σ A S2 h δ' e3 _ fun F3 H3 st3 S3=>?_
 have st:Stp A (M ++ Ml ++ Mh) F H F3 H3:=(st1.trans S1 st2).trans S2 st3
 have r3:Vw X.K F3 H3 A R x d:=(r1.step S1 st2 d1).step S2 st3 d2
 unfold Q0I at e4
 split at e4
 ·cases e4
  obtain ⟨a',xs,rfl,h1,r⟩:=r3.list S3
  exact .inl ⟨a',xs,rfl,SqL.of h1,fun p hp=>k _ _ _ (Y3 S3 st (Stp.laid S3 hp)) (S3.laid hp) (.inl (.lst upd_same ((r.cut l h).mono (Stp.laid (M:=[]) S3 hp).f)))⟩
 ·cases e4
  obtain ⟨a',xs,rfl,h0,h1,r⟩:=r3.tup S3
  refine .inr (.inl ⟨a',xs,rfl,h1,fun c=>?_,fun c p hp=>?_⟩)
  ·refine k _ F3 H3 st S3 (.inl ?_)
   rw [r.length] at c
   rw [Qca _ _ _ c]
   exact .tup h0 r
  ·exact k _ _ _ (Y3 S3 st (Stp.laid S3 hp)) (S3.laid hp) (.inl (.tup (.inl (.inl upd_same)) ((r.cut l h).mono (Stp.laid (M:=[]) S3 hp).f)))
 ·split at e4
  ·rename_i hz
   cases e4
   exact .inr (.inr ⟨_,r3.str,hz,k _ F3 H3 st S3 (.inl (.str _))⟩)
  ·cases e4
 ·cases e4
theorem Q4z {K:PySem.W.Frag} {Y:Fx} {F H F1 H1:Hp} {δ1:List Sl} {σ:L2.St} {A:Nat → List Addr} {M:List Nat} {p:Addr} (st:Stp A M F H F1 H1) (S1:SR K Y F1 H1 δ1 σ A) (n:H1 p = none):H p = none:=by
 cases e5:H p with
 | none=>rfl
 | some o =>
  by_cases c:∃ i,p ∈ A i
  ·obtain ⟨i,hi⟩:=c
   exact absurd n (S1.isSome hi)
  ·have:=st.kp p o e5 fun i _ hi=>c ⟨i,hi⟩
   rw [n] at this
   cases this
def Q1y (X:Cx) (r:List V → Hp → VK → Prop) (g:List D → Option D):Prop :=
 ∀ (Y:Fx) (F H:Hp) (δ:List Sl) (σ:L2.St) (A:Nat → List Addr) (R:List Nat) (xs:List V) (ds:List D) (z:D),SR X.K Y F H δ σ A → Vws X.K F H A R xs ds → g ds = some z →
  ∀ Q:VK,(∀ v F' H',Stp A [] F H F' H' → SR X.K Y F' H' δ σ A → Rp X.K F' v z → Q v H') → r xs H Q
def Q6D (X:Cx) (r:List V → Hp → VK → Prop) (g:List D → Option D):Prop :=
 ∀ (Y:Fx) (F H:Hp) (δ:List Sl) (σ:L2.St) (A:Nat → List Addr) (R:List Nat) (xs:List V) (ds:List D) (z:D),SR X.K Y F H δ σ A → Vws X.K F H A R xs ds → g ds = some z →
  ∀ Q:VK,(∀ p F' H',Stp A [] F H F' H' → SR X.K Y F' H' δ σ A → H p = none → F' p = none → Wz X.K F' H' p z → Q (.ref p) H') → r xs H Q
def fA (g:List D → Option D) (f:List Sl → Option (List D × List Sl)):List Sl → Option (D × List Sl):=fun δ=>(f δ).bind fun p=>(g p.1).map fun z=>(z,p.2)
theorem Q2w {g:List D → Option D} {f:List Sl → Option (List D × List Sl)} {δ δ':List Sl} {z:D} (h:fA g f δ = some (z,δ')):∃ d,f δ = some (d,δ') ∧ g d = some z:=by
 unfold fA at h
 cases e1:f δ with
 | none=>rw [e1] at h; cases h
 | some p =>
  obtain ⟨d,δ1⟩:=p
  rw [e1] at h
  simp only [Q1] at h
  cases e3:g d with
  | none=>rw [e3] at h; cases h
  | some w =>
   rw [e3] at h
   cases h
   exact ⟨d,rfl,e3⟩
section
variable {x:Str} {id T:String} {e:Expr} {es:List Expr} {f:List Sl → Option (List D × List Sl)} {R M:List Nat} {r:List V → Hp → VK → Prop} {g:List D → Option D} {p:Pos}
structure Bn (X:Cx) (x:Str) (v:Value):Prop where
 gl:Gl X x
 mg:X.mg x = none
 bt:bootBuiltins x = some v
 nn:x ≠ "__name__"
 db:(x == ("__debug__":Str)) = false
theorem Y1 (b:Bn X x (.builtin id)) (hc:CallR X (.builtin id) r) (hs:Q1y X r g) (ha:AV X (e :: es) f R M) (h1:starEach (e :: es) X.env = (false,eval e X.env) :: starEach es X.env:=by rfl) (h2:(backTo pos (starEach es X.env)).any (·.1) = false:=by rfl):EV X (.Call (.Name x p) (e :: es) [] pos) (fA g f) [] M:=by
 obtain ⟨t,pa,q⟩:=ha
 refine ⟨_,pe_callB hc b.gl b.mg b.bt pa b.nn b.db h1 h2,fun Y F H δ σ A S z δ' e Q k=>?_⟩
 obtain ⟨d,e1,e2⟩:=Q2w e
 refine q Y F H δ σ A S d δ' e1 _ fun vs F1 H1 st S1 r1=>?_
 exact hs Y F1 H1 δ' σ A _ vs d z S1 r1 e2 Q fun v F2 H2 st2 S2 r3=>k v F2 H2 (Y3 S1 st st2) S2 (.inl r3)
theorem Q4j (b:Bn X x (.builtin id)) (hc:CallR X (.builtin id) r) (hs:Q6D X r g) (ha:AV X (e :: es) f R M) (h1:starEach (e :: es) X.env = (false,eval e X.env) :: starEach es X.env:=by rfl) (h2:(backTo pos (starEach es X.env)).any (·.1) = false:=by rfl):NV X (.Call (.Name x p) (e :: es) [] pos) (fA g f) M:=by
 obtain ⟨t,pa,q⟩:=ha
 refine ⟨_,pe_callB hc b.gl b.mg b.bt pa b.nn b.db h1 h2,fun Y F H δ σ A S z δ' e Q k=>?_⟩
 obtain ⟨d,e1,e2⟩:=Q2w e
 refine q Y F H δ σ A S d δ' e1 _ fun vs F1 H1 st S1 r1=>?_
 exact hs Y F1 H1 δ' σ A _ vs d z S1 r1 e2 Q fun v F2 H2 st2 S2 n f3 r3=>k v F2 H2 (Y3 S1 st st2) S2 (Q4z st S1 n) f3 r3
theorem Vv (b:Bn X x (.type T)) (hc:CallR X (.type T) r) (hs:Q1y X r g) (ha:AV X (e :: es) f R M) (h1:starEach (e :: es) X.env = (false,eval e X.env) :: starEach es X.env:=by rfl) (h2:(backTo pos (starEach es X.env)).any (·.1) = false:=by rfl):EV X (.Call (.Name x p) (e :: es) [] pos) (fA g f) [] M:=by
 obtain ⟨t,pa,q⟩:=ha
 refine ⟨_,pe_callTy hc b.gl b.mg b.bt pa b.nn b.db h1 h2,fun Y F H δ σ A S z δ' e Q k=>?_⟩
 obtain ⟨d,e1,e2⟩:=Q2w e
 refine q Y F H δ σ A S d δ' e1 _ fun vs F1 H1 st S1 r1=>?_
 exact hs Y F1 H1 δ' σ A _ vs d z S1 r1 e2 Q fun v F2 H2 st2 S2 r3=>k v F2 H2 (Y3 S1 st st2) S2 (.inl r3)
theorem Q6f (b:Bn X x (.type T)) (hc:CallR X (.type T) r) (hs:Q6D X r g) (ha:AV X (e :: es) f R M) (h1:starEach (e :: es) X.env = (false,eval e X.env) :: starEach es X.env:=by rfl) (h2:(backTo pos (starEach es X.env)).any (·.1) = false:=by rfl):NV X (.Call (.Name x p) (e :: es) [] pos) (fA g f) M:=by
 obtain ⟨t,pa,q⟩:=ha
 refine ⟨_,pe_callTy hc b.gl b.mg b.bt pa b.nn b.db h1 h2,fun Y F H δ σ A S z δ' e Q k=>?_⟩
 obtain ⟨d,e1,e2⟩:=Q2w e
 refine q Y F H δ σ A S d δ' e1 _ fun vs F1 H1 st S1 r1=>?_
 exact hs Y F1 H1 δ' σ A _ vs d z S1 r1 e2 Q fun v F2 H2 st2 S2 n f3 r3=>k v F2 H2 (Y3 S1 st st2) S2 (Q4z st S1 n) f3 r3
end
end
end Z
namespace Z
open PySem PySem.Spec PyProof.Rows L2
section
variable {X:Cx}
theorem Vws.one {K:PySem.W.Frag} {F H:Hp} {A:Nat → List Addr} {R:List Nat} {vs:List V} {d:D} (h:Vws K F H A R vs [d]):∃ v,vs = [v] ∧ Vw K F H A R v d:=by
 match vs,h with
 | [v],⟨h,_⟩=>exact ⟨v,rfl,h⟩
 | [],h=>exact h.elim
 | _ :: _ :: _,⟨_,h⟩=>exact h.elim
theorem Vws.two {K:PySem.W.Frag} {F H:Hp} {A:Nat → List Addr} {R:List Nat} {vs:List V} {d e:D} (h:Vws K F H A R vs [d,e]):∃ v u,vs = [v,u] ∧ Vw K F H A R v d ∧ Vw K F H A R u e:=by
 match vs,h with
 | v :: r,⟨h,h'⟩ =>
  obtain ⟨u,rfl,h2⟩:=Vws.one h'
  exact ⟨v,u,rfl,h,h2⟩
 | [],h=>exact h.elim
def g1 (g:D → Option D):List D → Option D
 | [d]=>g d
 | _=>none
def g2 (g:D → D → Option D):List D → Option D
 | [d,e]=>g d e
 | _=>none
theorem Wh {g:D → Option D} {ds:List D} {z:D} (h:g1 g ds = some z):∃ d,ds = [d] ∧ g d = some z:=by
 unfold g1 at h
 split at h
 ·exact ⟨_,rfl,h⟩
 ·cases h
def Zq:D → Option D
 | .list ds=>some (.int ds.length)
 | .tuple ds=>some (.int ds.length)
 | .str z=>if z.length ≤ sizeLine then some (.int z.length) else none
 | _=>none
def Qe0 (K:PySem.W.Frag):List V → Hp → VK → Prop:=fun xs H Q=>(∃ p ys,xs = [.ref p] ∧ (SqL K H p ys ∨ SqT K H p ys) ∧ Q (.int ys.length) H) ∨ ∃ z,xs = [.str z] ∧ z.length ≤ sizeLine ∧ Q (.int z.length) H
theorem Wf:CallR X (.builtin "len") (Qe0 X.K):=call_len_seq.or call_len_str
theorem Wg:Q1y X (Qe0 X.K) (g1 Zq):=by
 intro Y F H δ σ A R xs ds z S r hg Q k
 obtain ⟨d,rfl,hg'⟩:=Wh hg
 clear hg
 have hg:=hg'
 obtain ⟨v,rfl,rv⟩:=r.one
 unfold Zq at hg
 split at hg
 ·cases hg
  obtain ⟨a,ys,rfl,h1,r1⟩:=rv.list S
  refine .inl ⟨a,ys,rfl,.inl (SqL.of h1),?_⟩
  rw [r1.length]
  exact k _ F H Stp.refl S (.int _)
 ·cases hg
  obtain ⟨a,ys,rfl,_,h1,r1⟩:=rv.tup S
  refine .inl ⟨a,ys,rfl,.inr h1,?_⟩
  rw [r1.length]
  exact k _ F H Stp.refl S (.int _)
 ·split at hg
  ·rename_i hz
   cases hg
   exact .inr ⟨_,by rw [rv.str],hz,k _ F H Stp.refl S (.int _)⟩
  ·cases hg
 ·cases hg
def Q4K:D → Option D
 | .list ds=>some (.list ds)
 | .tuple ds=>some (.list ds)
 | _=>none
def Q7x:D → Option D
 | .list ds=>some (.tuple ds)
 | .tuple ds=>some (.tuple ds)
 | _=>none
def Qcx (K:PySem.W.Frag):List V → Hp → VK → Prop:=fun xs H Q=>∃ p ys,xs = [.ref p] ∧ (SqL K H p ys ∨ SqT K H p ys) ∧ ∀ l,H l = none → Q (.ref l) (upd H l (.lst ys))
theorem Q8g:CallR X (.type "list") (Qcx X.K):=call_list_of
theorem Q7V:Q6D X (Qcx X.K) (g1 Q4K):=by
 intro Y F H δ σ A R xs ds z S r hg Q k
 obtain ⟨d,rfl,hg'⟩:=Wh hg
 clear hg
 have hg:=hg'
 obtain ⟨v,rfl,rv⟩:=r.one
 unfold Q4K at hg
 split at hg
 ·cases hg
  obtain ⟨a,ys,rfl,h1,r1⟩:=rv.list S
  exact ⟨a,ys,rfl,.inl (SqL.of h1),fun p hp=>k p F _ (Stp.laidO hp) (S.laidO hp) hp (S.sub.free hp) ⟨_,upd_same,r1⟩⟩
 ·cases hg
  obtain ⟨a,ys,rfl,_,h1,r1⟩:=rv.tup S
  exact ⟨a,ys,rfl,.inr h1,fun p hp=>k p F _ (Stp.laidO hp) (S.laidO hp) hp (S.sub.free hp) ⟨_,upd_same,r1⟩⟩
 ·cases hg
def Qai (K:PySem.W.Frag):List V → Hp → VK → Prop:=fun xs H Q=>∃ p ys,xs = [.ref p] ∧ ((SqL K H p ys ∧ ∀ l,H l = none → Q (.ref l) (upd H l (.tup ys))) ∨ (SqT K H p ys ∧ Q (.ref p) H))
theorem Q2O:CallR X (.type "tuple") (Qai X.K):=call_tuple_of
theorem Q2D:Q1y X (Qai X.K) (g1 Q7x):=by
 intro Y F H δ σ A R xs ds z S r hg Q k
 obtain ⟨d,rfl,hg'⟩:=Wh hg
 clear hg
 have hg:=hg'
 obtain ⟨v,rfl,rv⟩:=r.one
 unfold Q7x at hg
 split at hg
 ·cases hg
  obtain ⟨a,ys,rfl,h1,r1⟩:=rv.list S
  exact ⟨a,ys,rfl,.inl ⟨SqL.of h1,fun p hp=>k _ _ _ (Stp.laid S hp) (S.laid hp) (.tup (.inl (.inl upd_same)) (r1.mono (Stp.laid (M:=[]) S hp).f))⟩⟩
 ·cases hg
  obtain ⟨a,ys,rfl,h0,h1,r1⟩:=rv.tup S
  exact ⟨a,ys,rfl,.inr ⟨h1,k _ F H Stp.refl S (.tup h0 r1)⟩⟩
 ·cases hg
def Q8M:D → Option D
 | .int i=>some (.int i)
 | .bool b=>some (.int (if b then 1 else 0))
 | _=>none
def QdJ:List V → Hp → VK → Prop:=fun xs H Q=>(∃ i,xs = [.int i] ∧ Q (.int i) H) ∨ ∃ k,xs = [.bl k] ∧ Q (.int (if k then 1 else 0)) H
theorem Q7z:CallR X (.type "int") QdJ:=call_int1
theorem Q7L:Q1y X QdJ (g1 Q8M):=by
 intro Y F H δ σ A R xs ds z S r hg Q k
 obtain ⟨d,rfl,hg'⟩:=Wh hg
 clear hg
 have hg:=hg'
 obtain ⟨v,rfl,rv⟩:=r.one
 unfold Q8M at hg
 split at hg
 ·cases hg
  exact .inl ⟨_,by rw [rv.int],k _ F H Stp.refl S (.int _)⟩
 ·cases hg
  exact .inr ⟨_,by rw [rv.bl],k _ F H Stp.refl S (.int _)⟩
 ·cases hg
def Q3s:D → Option D
 | .int i=>if i.natAbs.log2 < 1920 then some (.str (toString i)) else none
 | _=>none
def Qcp:List V → Hp → VK → Prop:=fun xs H Q=>∃ i,xs = [.int i] ∧ i.natAbs.log2 < 1920 ∧ Q (.str (toString i)) H
theorem QaM:CallR X (.type "str") Qcp:=call_str_int
theorem QaK:Q1y X Qcp (g1 Q3s):=by
 intro Y F H δ σ A R xs ds z S r hg Q k
 obtain ⟨d,rfl,hg'⟩:=Wh hg
 clear hg
 have hg:=hg'
 obtain ⟨v,rfl,rv⟩:=r.one
 unfold Q3s at hg
 split at hg
 ·split at hg
  ·rename_i hz
   cases hg
   exact ⟨_,by rw [rv.int],hz,k _ F H Stp.refl S (.str _)⟩
  ·cases hg
 ·cases hg
def Vu:List D → Option (List Int)
 | []=>some []
 | .int i :: r=>(Vu r).map (i :: ·)
 | _ :: _=>none
theorem Q3c:∀ {ds:List D} {ns:List Int},Vu ds = some ns → ds = ns.map Q0
 | [],_,h=>by cases h; rfl
 | d :: r,ns,h=>by
  cases d with
  | int i =>
   unfold Vu at h
   cases e:Vu r with
   | none=>rw [e] at h; cases h
   | some m =>
    rw [e] at h
    cases h
    rw [Q3c e]
    rfl
  | _=>cases h
theorem Q0m:∀ ns:List Int,Vu (ns.map Q0) = some ns
 | []=>rfl
 | n :: ns=>by
  show (Vu (ns.map Q0)).map (n :: ·) = _
  rw [Q0m ns]
  rfl
def Q5R:D → Option D
 | .list ds=>(Vu ds).map fun ns=>.int ns.sum
 | _=>none
theorem Q5f (hc:X.calm = true):CallR X (.builtin "sum") (rSum X.K):=cr_sum hc
theorem Q7O:Q1y X (rSum X.K) (g1 Q5R):=by
 intro Y F H δ σ A R xs ds z S r hg Q k
 obtain ⟨d,rfl,hg'⟩:=Wh hg
 clear hg
 have hg:=hg'
 obtain ⟨v,rfl,rv⟩:=r.one
 unfold Q5R at hg
 split at hg
 ·rename_i ds'
  cases e:Vu ds' with
  | none=>rw [e] at hg; cases hg
  | some ns =>
   rw [e] at hg
   cases hg
   have e2:=Q3c e
   subst e2
   obtain ⟨a,ys,rfl,h1,r1⟩:=rv.list S
   have e3:=r1.ints
   subst e3
   exact ⟨a,ns,rfl,SqL.of h1,k _ F H Stp.refl S (.int _)⟩
 ·cases hg
def Q3f (d:D):Option D:=if d.showable && (!d.hasDict) && decide (d.shown.length ≤ sizeLine) && decide (d.depth ≤ 64) then some (.str d.shown) else none
def Qcr (X:Cx):List V → Hp → VK → Prop:=fun xs H Q=>∃ x G d,xs = [x] ∧ Same G H ∧ Rp X.K G x d ∧ d.showable = true ∧ d.hasDict = false ∧ d.shown.length ≤ sizeLine ∧ d.depth ≤ 64 ∧ Q (.str d.shown) H
theorem Q8d (hg:X.A.guards = some []) (hu:X.A.units + 66 < cLine):CallR X (.builtin "repr") (Qcr X):=by
 intro pins s σ H xs us Q I r h
 obtain ⟨x,G,d,rfl,sG,rp,h1,h2,h3,h4,q⟩:=h
 obtain ⟨u,rfl,rx⟩:=vals1 r
 obtain ⟨as,rd⟩:=Rp.reads I sG d x u rp rx
 have go:∀ a,u = .ref a → wpAny (model X.prog X.w) X.A (call (.builtin "repr") [u]) (EP X pins σ Q) X.xe s:=fun a e=>by
  subst e
  exact repr_of_reads' rd h1 (fun z=>by rw [h2] at z; cases z) hg (by omega) (fun _ _ e=>e) (fun h' t tk hk=>⟨.str d.shown,H,I.kept (t':=tk) hk,⟨_,rfl⟩,q⟩) h3
 cases rp with
 | int i =>
  obtain ⟨t,rfl⟩:=rx
  exact PySem.P.repr_of_int (by simpa [PyData.showable] using h1) ⟨.str _,H,I.tok _,⟨_,rfl⟩,q⟩
 | lst _ _=>exact go _ rx
 | tup _ _=>exact go _ rx
 | dic _ _=>exact go _ rx
 | non=>cases rx; exact PySem.P.repr_of_none ⟨.str _,H,I.tok _,⟨_,rfl⟩,q⟩
 | bl b=>cases rx; exact PySem.P.repr_of_bool ⟨.str _,H,I.tok _,⟨_,rfl⟩,q⟩
 | str z=>obtain ⟨t,rfl⟩:=rx; exact PySem.P.repr_of_str ⟨.str _,H,I.tok _,⟨_,rfl⟩,q⟩ h3
theorem Q7U:Q1y X (Qcr X) (g1 Q3f):=by
 intro Y F H δ σ A R xs ds z S r hg Q k
 obtain ⟨d,rfl,hg'⟩:=Wh hg
 obtain ⟨v,rfl,rv⟩:=r.one
 unfold Q3f at hg'
 split at hg'
 ·rename_i c
  cases hg'
  simp only [Q6,decide_eq_true_eq,Bool.not_eq_true'] at c
  exact ⟨v,_,d,rfl,Q0o S,rv.ex S,c.1.1.1,c.1.1.2,c.1.2,c.2,k _ F H Stp.refl S (.str _)⟩
 ·cases hg'
theorem Q6F {K:PySem.W.Frag} {G:Hp}:∀ {us:List Value} {ds:List D},PySem.W.EachIs (fun u d=>∃ x,RelV x u ∧ Rp K G x d) us ds → ∃ xs,Vals xs us ∧ Rps K G xs ds
 | _,_,.nil=>⟨[],.nil,.nil⟩
 | _,_,.cons ⟨x,h1,h2⟩ t=>by
  obtain ⟨xs,q1,q2⟩:=Q6F t
  exact ⟨x :: xs,.cons h1 q1,.cons h2 q2⟩
theorem Q6i {K:PySem.W.Frag} {G:Hp}:∀ {xs:List V} {us:List Value} {ds:List D},Vals xs us → Rps K G xs ds → PySem.W.EachIs (fun u d=>∃ x,RelV x u ∧ Rp K G x d) us ds
 | _,_,_,.nil,.nil=>.nil
 | _,_,_,.cons h1 t1,.cons h2 t2=>.cons ⟨_,h1,h2⟩ (Q6i t1 t2)
def Q1Z (ds:List D):Bool:=ds.all fun d=>ds.all fun e=>PySem.W.alike d e
def Qcj:List D → Bool
 | [.tuple []]=>true
 | _=>false
def Q39 (ds:List D):Bool:=(ds.all fun d=>match d with | .tuple (_ :: _)=>true | _=>false) || ((ds.all fun d=>match d with | .int _=>true | .str _=>true | .bool _=>true | _=>false) || Qcj ds)
theorem Qaw {ds:List D} (h:Q39 ds = true):PySem.W.Sortable ds ∨ ds = [.tuple []]:=by
 unfold Q39 at h
 rw [J8,J8] at h
 rcases h with h | h | h
 ·refine .inl (.inl fun d hd=>?_)
  have:=Qq.mp h d hd
  split at this
  ·exact ⟨_,_,rfl⟩
  ·cases this
 ·refine .inl (.inr fun d hd=>?_)
  have:=Qq.mp h d hd
  split at this
  ·exact ⟨by simp,by simp⟩
  ·exact ⟨by simp,by simp⟩
  ·exact ⟨by simp,by simp⟩
  ·cases this
 ·unfold Qcj at h
  split at h
  ·exact .inr rfl
  ·cases h
theorem Q7K {prog:Program} {w:World} {A:Around} {s:Shared} {v:Value} {as:List Addr} (hu:A.units < cLine) (r:Reads s.heap v (.tuple []) as):PySem.W.SortsAt prog w A s (PySem.W.dataKind s.heap [.tuple []]) [v]:=by
 have hal:PySem.W.AllAlike [.tuple []]:=fun d hd d' hd'=>by
  rw [Qj] at hd hd'
  subst hd hd'
  rfl
 refine ⟨fun u hu=>?_,tuples' false,?_,fun h2=>absurd h2 (by simp)⟩
 ·rw [Qj] at hu
  subst hu
  exact ⟨_,PySem.W.dataKind_some hal (Qj.mpr rfl) r⟩
 ·intro E x y a b Q ha hb hq
  obtain ⟨d,as,hd,ra,rfl⟩:=PySem.W.dataKind_inv ha
  obtain ⟨d',as',hd',rb,rfl⟩:=PySem.W.dataKind_inv hb
  rw [Qj] at hd hd'
  subst hd hd'
  have hq':Q (PySem.W.dataLt (.tuple []) (.tuple [])) s:=hq
  cases ra with
  | @tuple l o xs n _ _ h1 h2 h3 h4 =>
   cases rb with
   | @tuple l' o' xs' n' _ _ k1 k2 k3 k4 =>
    have n1:xs.size = ([]:List D).length:=by simpa using SeqAt.ReadsAll.length _ _ _ h4
    have n2:xs'.size = ([]:List D).length:=by simpa using SeqAt.ReadsAll.length _ _ _ k4
    have n3:A.units + min (Qv []) (Qv []) < cLine:=hu
    exact PySem.W.kat_lt h1 h3 k1 k3 (PySem.W.katLex_alike [] [] 0 _ _ _ _ h4 k4 rfl n3 (fun hb=>nomatch hb) (by rw [n1,n2]) hq')
def Q76 (ds:List D):List D:=ds.mergeSort (PySem.W.dataLe false id)
def Q6u:D → Option D
 | .list ds=>if Q1Z ds && Q39 ds && ds.all (fun d=>decide (d.depth ≤ 64)) then some (.list (Q76 ds)) else none
 | _=>none
def Q9A (X:Cx):List V → Hp → VK → Prop:=fun vs H Q=>∃ (a:Addr) (xs:List V) (G:Hp) (ds:List D),vs = [V.ref a] ∧ H a = some (.lst xs) ∧ Same G H ∧ Rps X.K G xs ds ∧ Q1Z ds = true ∧ Q39 ds = true ∧ (∀ d ∈ ds,d.depth ≤ 64) ∧
 ∀ (ys:List V) (p:Addr),H p = none → Rps X.K G ys (Q76 ds) → Q (.ref p) (upd H p (.lst ys))
theorem Q72 (hu:X.A.units + 67 < cLine):CallR X (.builtin "sorted") (Q9A X):=by
 intro pins s σ H vs us Q I r h
 obtain ⟨a,xs,G,ds,rfl,hs,sG,rp,h1,h2,h3,q⟩:=h
 obtain ⟨its,rv,hl,hz⟩:=I.list (SqL.of hs)
 rw [Vals.ref1 r]
 have hE:=Q6i rv rp
 have hal:PySem.W.AllAlike (ds.map id):=by
  rw [List.map_id]
  intro d hd d' hd'
  exact Qq.mp (Qq.mp h1 d hd) d' hd'
 have er:=hE.mono fun u d ⟨x,q1,q2⟩=>Rp.reads I sG d x u q2 q1
 have hdp:∀ b ∈ ds,X.A.units + 2 + (id b).depth < cLine:=fun b hb=>by
  have:=h3 b hb
  show X.A.units + 2 + b.depth < cLine
  omega
 have hzl:ds.length ≤ sizeLine:=by rw [← rp.length]; exact hz
 suffices hend:∀ out:List Value,out.length = ds.length → PySem.W.EachIs (fun u d=>∃ x,RelV x u ∧ Rp X.K G x d) out (ds.mergeSort (PySem.W.dataLe false id)) → EP X pins σ Q (.ref (s.heap.objs.size + 1)) { s with heap:=sortedAll s.heap its (List.toArray out) } by
  rcases Qaw h2 with h2 | h2
  ·exact PySem.W.sorted_data (R:=fun u d=>∃ x,RelV x u ∧ Rp X.K G x d) (enc:=id) (bs:=ds) hl.isList hE er hal (by rw [List.map_id]; exact h2) hzl hdp hend
  ·subst h2
   have hl1:its.length = 1:=hE.length
   obtain ⟨v0,rfl⟩:=List.length_eq_one_iff.mp hl1
   have er':PySem.W.EachIs (fun v b=>∃ as,Reads (PySem.W.sortingHeap (PySem.W.copyHeap s.heap [v0]) (s.heap.objs.size + 1) [v0]) v (id b) as) [v0] [.tuple []]:=er.mono fun _ _ ⟨as,r⟩=>⟨as,PyProof.Rows.Reads.keeps (fun _ _=>PySem.W.sorting_copy_old) r⟩
   cases er' with
   | cons r0 _ =>
    obtain ⟨as,r0⟩:=r0
    have er2:PySem.W.EachIs (fun v b=>∃ as,Reads (PySem.W.sortingHeap (PySem.W.copyHeap s.heap [v0]) (s.heap.objs.size + 1) [v0]) v (id b) as) [v0] [.tuple []]:=.cons ⟨as,r0⟩ .nil
    have S:PySem.W.SortsAt X.prog X.w X.A.in1.in1 { s with heap:=PySem.W.sortingHeap (PySem.W.copyHeap s.heap [v0]) (s.heap.objs.size + 1) [v0] } (PySem.W.dataKind (PySem.W.sortingHeap (PySem.W.copyHeap s.heap [v0]) (s.heap.objs.size + 1) [v0]) (([.tuple []]:List D).map id)) [v0]:=by
     rw [List.map_id]
     exact Q7K (A:=X.A.in1.in1) (s:={ s with heap:=PySem.W.sortingHeap (PySem.W.copyHeap s.heap [v0]) (s.heap.objs.size + 1) [v0] }) (by show X.A.units + 2 < cLine; omega) r0
    have hd:=PySem.W.sortVals_data false hE er2 hal
    have hlen:=PySem.W.sortVals_length (κ:=PySem.W.dataKind (PySem.W.sortingHeap (PySem.W.copyHeap s.heap [v0]) (s.heap.objs.size + 1) [v0]) (([.tuple []]:List D).map id)) (vs:=[v0]) (ks:=[v0]) false rfl
    have hf:=hend _ hlen hd
    exact PySem.W.sorted_vals (κ:=PySem.W.dataKind (PySem.W.sortingHeap (PySem.W.copyHeap s.heap [v0]) (s.heap.objs.size + 1) [v0]) (([.tuple []]:List D).map id)) hl.isList S (by rw [hE.length]; exact hzl) hf
 intro out ho eo
 obtain ⟨ys,q1,q2⟩:=Q6F eo
 obtain ⟨ep,he'⟩:=PyProof.Rows.sortedAll_at s.heap its (List.toArray out)
 have hlen:ys.length ≤ sizeLine:=by rw [q1.length,ho,← rp.length]; exact hz
 exact ⟨.ref _,upd H (s.heap.objs.size + 1) (.lst ys),I.laid (t':=s.toks) (fun _ _=>PyProof.Rows.sortedAll_old) (Nat.le_succ _) ⟨hlen,out,ep,q1,he'⟩,rfl,q ys _ (I.hok.fresh (Nat.le_succ _)) q2⟩
theorem Q8q:Q6D X (Q9A X) (g1 Q6u):=by
 intro Y F H δ σ A R xs ds z S r hg Q k
 obtain ⟨d,rfl,hg'⟩:=Wh hg
 obtain ⟨v,rfl,rv⟩:=r.one
 clear hg
 unfold Q6u at hg'
 split at hg'
 ·rename_i ds'
  split at hg'
  ·rename_i c
   cases hg'
   simp only [Q6,Qq,decide_eq_true_eq] at c
   obtain ⟨a,ys,rfl,h1,r1⟩:=rv.list S
   exact ⟨a,ys,F,ds',rfl,h1,S.sub,r1,c.1.1,c.1.2,c.2,fun zs p hp r2=>k p F _ (Stp.laidO hp) (S.laidO hp) hp (S.sub.free hp) ⟨_,upd_same,r2⟩⟩
  ·cases hg'
 ·cases hg'
end
end Z
namespace Z
open PySem PySem.Spec PyProof.Rows L2
def uA (A:Nat → List Addr) (i:Nat) (l:List Addr):Nat → List Addr:=fun j=>if j = i then l else A j
theorem Q1e {A:Nat → List Addr} {i:Nat} {l:List Addr}:uA A i l i = l:=if_pos rfl
theorem Q1x {A:Nat → List Addr} {i j:Nat} {l:List Addr} (h:j ≠ i):uA A i l j = A j:=if_neg h
section
variable {K:PySem.W.Frag} {Y:Fx} {F F' H H':Hp} {δ:List Sl} {σ:L2.St} {A:Nat → List Addr} {i:Nat}
theorem Q6N {v:Option V} (h:i < σ.length):jn (σ.set i v)[i]? = v:=by
 rw [Qh h]
 rfl
theorem Q2X {v:Option V} {j:Nat} (h:j ≠ i):jn (σ.set i v)[j]? = jn σ[j]?:=by
 rw [Qc (Ne.symm h)]
theorem Qaz {v:Option V} {fs:List (Str × Nat)} (h:∀ q ∈ fs,q.2 ≠ i):Q7l (σ.set i v) fs = Q7l σ fs:=by
 unfold Q7l
 induction fs with
 | nil=>rfl
 | cons q r ih =>
  rw [List.filterMap_cons,List.filterMap_cons,Q2X (h q Q5),ih fun x hx=>h x (Q4 _ hx)]
theorem Qe9 {io:Nat → Bool} {fs:List (Str × Nat)} (h:∀ q ∈ fs,io q.2 = true) (hio:io i = false):∀ q ∈ fs,q.2 ≠ i:=fun q hq z=>by
 have:=h q hq
 rw [z,hio] at this
 cases this
theorem SR.put (S:SR K Y F H δ σ A) (hi:i < δ.length) (hio:Y.io i = false) {s:Sl} {v:Option V} {l:List Addr} (hob:∀ c fs,s ≠ Sl.ob c fs) (h:Q00 K F H s v l) (hF:∀ a ∈ l,F a = none) (hY:∀ a ∈ l,Y.H0 a = none) (hA:∀ a ∈ l,∀ j,j ≠ i → a ∉ A j) :
  SR K Y F H (δ.set i s) (σ.set i v) (uA A i l):=by
 have hs:i < σ.length:=by rw [← S.len]; exact hi
 refine ⟨by rw [Qk,Qk]; exact S.len,fun j t e=>?_,fun j e=>?_,fun j k a h1 h2=>?_,fun j a h1=>?_,fun j a h1 h2=>?_,S.sub,fun j h1=>?_,S.ioA,S.kp,S.nw,S.f0,S.lio,fun j c fs e=>?_,fun j hj=>?_⟩
 ·by_cases c:j = i
  ·subst c
   rw [Qh hi] at e
   cases e
   rw [Q6N hs,Q1e]
   exact h
  ·rw [Qc (Ne.symm c)] at e
   rw [Q2X c,Q1x c]
   exact S.slot j t e
 ·by_cases c:j = i
  ·subst c
   rw [Qh hi] at e
   cases e
  ·rw [Qc (Ne.symm c)] at e
   rw [Q1x c]
   exact S.out j e
 ·by_cases c:j = i
  ·by_cases c2:k = i
   ·rw [c,c2]
   ·subst c
    rw [Q1e] at h1
    rw [Q1x c2] at h2
    exact absurd h2 (hA a h1 k c2)
  ·by_cases c2:k = i
   ·subst c2
    rw [Q1e] at h2
    rw [Q1x c] at h1
    exact absurd h1 (hA a h2 j c)
   ·rw [Q1x c] at h1
    rw [Q1x c2] at h2
    exact S.dis j k a h1 h2
 ·by_cases c:j = i
  ·subst c
   rw [Q1e] at h1
   exact hF a h1
  ·rw [Q1x c] at h1
   exact S.hid j a h1
 ·by_cases c:j = i
  ·subst c
   rw [Q1e] at h1
   exact hY a h1
  ·rw [Q1x c] at h1
   exact S.new j a h1 h2
 ·by_cases c:j = i
  ·subst c
   rw [S.nlt hio] at h1
   cases h1
  ·rw [Qc (Ne.symm c),Q1x c]
   exact S.fix j h1
 ·by_cases c2:j = i
  ·subst c2
   rw [Qh hi] at e
   exact absurd (J4.inj e) (hob c fs)
  ·rw [Qc (Ne.symm c2)] at e
   rw [Q2X c2]
   obtain ⟨h1,h2⟩:=S.ob j c fs e
   refine ⟨h1,fun p C dx fvs e1 e2=>?_⟩
   rw [Qaz (Qe9 h1 (S.nvt hio))]
   exact h2 p C dx fvs e1 e2
 ·rw [Qc fun z=>by rw [← z,hio] at hj; cases hj]
  exact S.vno j hj
theorem SR.putFz (S:SR K Y F H δ σ A) (hi:i < δ.length) (hio:Y.io i = false) {d:D} {v:V} (h:Rp K F v d):SR K Y F H (δ.set i (.fz d)) (σ.set i (some v)) (uA A i []) :=
 S.put hi hio (fun _ _=>by simp) (show Q00 K F H (.fz d) (some v) [] from ⟨rfl,v,rfl,h⟩) (by simp) (by simp) (by simp)
theorem SR.putNo (S:SR K Y F H δ σ A) (hi:i < δ.length) (hio:Y.io i = false) {v:Option V}:SR K Y F H (δ.set i .no) (σ.set i v) (uA A i []) :=
 S.put hi hio (fun _ _=>by simp) (show Q00 K F H .no v [] from rfl) (by simp) (by simp) (by simp)
theorem SR.putOw (S:SR K Y F H δ σ A) (hi:i < δ.length) (hio:Y.io i = false) {d:D} {p:Addr} (hp:Y.H0 p = none) (hF:F p = none) (hA:∀ j,p ∉ A j) (h:Wz K F H p d):SR K Y F H (δ.set i (.ow d)) (σ.set i (some (.ref p))) (uA A i [p]) :=
 S.put hi hio (fun _ _=>by simp) (show Q00 K F H (.ow d) (some (.ref p)) [p] from ⟨p,rfl,rfl,h⟩) (fun a ha=>by simp at ha; subst ha; exact hF) (fun a ha=>by simp at ha; subst ha; exact hp) (fun a ha j _=>by simp at ha; subst ha; exact hA j)
theorem SR.fresh0 (S:SR K Y F H δ σ A) {p:Addr} (hp:H p = none):Y.H0 p = none:=by
 cases e:Y.H0 p with
 | none=>rfl
 | some o =>
  by_cases c:∃ i,Y.lt i = true ∧ p ∈ Y.A0 i
  ·obtain ⟨i,hi,hA⟩:=c
   rw [← (S.fix i hi).2] at hA
   exact absurd hp (S.isSome hA)
  ·have:=S.kp p o e fun i hi z=>c ⟨i,hi,z⟩
   rw [hp] at this
   cases this
theorem SR.vno_set (S:SR K Y F H δ σ A) (hi:i < δ.length) {s:Sl} (h:s ≠ Sl.no):∀ (j:Nat),Y.io j = true → (δ.set i s)[j]? ≠ some Sl.no:=fun j hj=>by
 by_cases c:j = i
 ·subst c
  rw [Qh hi]
  exact fun z=>h (J4.inj z)
 ·rw [Qc (Ne.symm c)]
  exact S.vno j hj
theorem SR.ob_set (S:SR K Y F H δ σ A) (hi:i < δ.length) {s:Sl} (hob:∀ c fs,s ≠ Sl.ob c fs) (k:∀ j,j ≠ i → ∀ a ∈ A j,H' a = H a):∀ (j:Nat) (c:Str) (fs:List (Str × Nat)),(δ.set i s)[j]? = some (Sl.ob c fs) → ObR Y.vt H' (jn σ[j]?) σ fs:=fun j c fs e=>by
 by_cases c2:j = i
 ·subst c2
  rw [Qh hi] at e
  exact absurd (J4.inj e) (hob c fs)
 ·rw [Qc (Ne.symm c2)] at e
  obtain ⟨h1,h2⟩:=S.ob j c fs e
  refine ⟨h1,fun p C dx fvs e1 e2=>h2 p C dx fvs e1 ?_⟩
  rw [← k j c2 p (S.obp e e1)]
  exact e2
theorem SR.chg (S:SR K Y F H δ σ A) {d d':D} {p:Addr} {o:HO} (hd:δ[i]? = some (.ow d)) (hA:A i = [p]) (h:Wz K F (upd H p o) p d'):SR K Y F (upd H p o) (δ.set i (.ow d')) σ A:=by
 have hi:i < δ.length:=(Qi.mp hd).1
 obtain ⟨p',e1,e2,o1⟩:=S.slot i _ hd
 have hpA:p ∈ A i:=by rw [hA]; simp
 have ep:p' = p:=by
  rw [hA] at e2
  exact (List.cons.inj e2).1.symm
 subst ep
 refine ⟨by rw [Qk]; exact S.len,fun j t e=>?_,fun j e=>?_,S.dis,S.hid,S.new,fun b x e=>?_,S.fix,S.ioA,fun a x e n=>?_,S.nw,S.f0,S.lio,S.ob_set hi (fun _ _=>by simp) fun j c a ha=>upd_ne fun z=>c (S.dis j i a ha (by rw [z]; exact hpA)),S.vno_set hi (by simp)⟩
 ·by_cases c:j = i
  ·subst c
   rw [Qh hi] at e
   cases e
   exact ⟨p',e1,hA,h⟩
  ·rw [Qc (Ne.symm c)] at e
   refine (S.slot j t e).mono (Same.refl _) fun a ha=>upd_ne fun z=>?_
   subst z
   exact c (S.dis j i _ ha hpA)
 ·by_cases c:j = i
  ·subst c
   rw [Qh hi] at e
   cases e
  ·rw [Qc (Ne.symm c)] at e
   exact S.out j e
 ·have q:=S.sub b x e
  rw [upd_ne]
  ·exact q
  ·intro z
   subst z
   rw [S.hid i _ hpA] at e
   cases e
 ·rw [upd_ne]
  ·exact S.kp a x e n
  ·intro z
   subst z
   cases hio:Y.lt i with
   | false =>
    rw [S.new i _ hpA hio] at e
    cases e
   | true =>
    have:=(S.fix i hio).2
    rw [this] at hpA
    exact n i hio hpA
theorem Stp.chg {M:List Nat} {p:Addr} {o:HO} (hM:i ∈ M) (hA:p ∈ A i):Stp A M F H F (upd H p o) :=
 ⟨Same.refl _,fun a e n=>absurd e n,fun a x e n=>by
  rw [upd_ne]
  ·exact e
  ·intro z
   subst z
   exact n i hM hA⟩
def frz (i:Nat) (δ:List Sl):List Sl:=match δ[i]? with
 | some (.ow d)=>δ.set i (.fz d)
 | _=>δ
theorem SR.lock (S:SR K Y F H δ σ A) {ds:List (D × D)} (hd:δ[i]? = some (.ow (.dict ds))):∃ p u,A i = [p] ∧ H p = some u ∧ Mut (some u) ∧ ∀ od,SR K Y F (upd H p (.frz od u)) (δ.set i (.lk ds)) σ A:=by
 have hi:i < δ.length:=(Qi.mp hd).1
 obtain ⟨p,e1,e2,kvs,h1,h2⟩:=S.slot i _ hd
 have hpA:p ∈ A i:=by rw [e2]; simp
 refine ⟨p,_,e2,h1,trivial,fun od=>?_⟩
 refine ⟨by rw [Qk]; exact S.len,fun j t e=>?_,fun j e=>?_,S.dis,S.hid,S.new,fun b x e=>?_,S.fix,S.ioA,fun a x e n=>?_,S.nw,S.f0,S.lio,S.ob_set hi (fun _ _=>by simp) fun j c a ha=>upd_ne fun z=>c (S.dis j i a ha (by rw [z]; exact hpA)),S.vno_set hi (by simp)⟩
 ·by_cases c:j = i
  ·subst c
   rw [Qh hi] at e
   cases e
   exact ⟨p,e1,e2,od,kvs,upd_same,h2⟩
  ·rw [Qc (Ne.symm c)] at e
   refine (S.slot j t e).mono (Same.refl _) fun a ha=>upd_ne fun z=>?_
   subst z
   exact c (S.dis j i _ ha hpA)
 ·by_cases c:j = i
  ·subst c
   rw [Qh hi] at e
   cases e
  ·rw [Qc (Ne.symm c)] at e
   exact S.out j e
 ·have q:=S.sub b x e
  rw [upd_ne]
  ·exact q
  ·intro z
   subst z
   rw [S.hid i _ hpA] at e
   cases e
 ·rw [upd_ne]
  ·exact S.kp a x e n
  ·intro z
   subst z
   cases hio:Y.lt i with
   | false =>
    rw [S.new i _ hpA hio] at e
    cases e
   | true =>
    have:=(S.fix i hio).2
    rw [this] at hpA
    exact n i hio hpA
theorem SR.unlock (S:SR K Y F H δ σ A) {ds:List (D × D)} {p:Addr} {od:Obj} {u:HO} (hd:δ[i]? = some (.lk ds)) (hA:A i = [p]) (hu:H p = some (.frz od u)):SR K Y F (upd H p u) (δ.set i (.ow (.dict ds))) σ A:=by
 have hi:i < δ.length:=(Qi.mp hd).1
 obtain ⟨p',e1,e2,o',kvs,h1,h2⟩:=S.slot i _ hd
 have ep:p' = p:=by
  rw [hA] at e2
  exact (List.cons.inj e2).1.symm
 subst ep
 have hpA:p' ∈ A i:=by rw [hA]; simp
 rw [h1] at hu
 cases hu
 refine ⟨by rw [Qk]; exact S.len,fun j t e=>?_,fun j e=>?_,S.dis,S.hid,S.new,fun b x e=>?_,S.fix,S.ioA,fun a x e n=>?_,S.nw,S.f0,S.lio,S.ob_set hi (fun _ _=>by simp) fun j c a ha=>upd_ne fun z=>c (S.dis j i a ha (by rw [z]; exact hpA)),S.vno_set hi (by simp)⟩
 ·by_cases c:j = i
  ·subst c
   rw [Qh hi] at e
   cases e
   exact ⟨p',e1,hA,kvs,upd_same,h2⟩
  ·rw [Qc (Ne.symm c)] at e
   refine (S.slot j t e).mono (Same.refl _) fun a ha=>upd_ne fun z=>?_
   subst z
   exact c (S.dis j i _ ha hpA)
 ·by_cases c:j = i
  ·subst c
   rw [Qh hi] at e
   cases e
  ·rw [Qc (Ne.symm c)] at e
   exact S.out j e
 ·have q:=S.sub b x e
  rw [upd_ne]
  ·exact q
  ·intro z
   subst z
   rw [S.hid i _ hpA] at e
   cases e
 ·rw [upd_ne]
  ·exact S.kp a x e n
  ·intro z
   subst z
   cases hio:Y.lt i with
   | false =>
    rw [S.new i _ hpA hio] at e
    cases e
   | true =>
    have:=(S.fix i hio).2
    rw [this] at hpA
    exact n i hio hpA
theorem SR.wipe1 (S:SR K Y F H δ σ A) (hi:i < δ.length) (hio:Y.io i = false):SR K Y F H (δ.set i .no) σ (uA A i []):=by
 have w:=S.putNo (v:=jn σ[i]?) hi hio
 have e:σ.set i (jn σ[i]?) = σ:=by
  have hs:i < σ.length:=by rw [← S.len]; exact hi
  apply List.ext_getElem?
  intro j
  by_cases c:j = i
  ·subst c
   rw [Qh hs,Ql hs]
   rfl
  ·rw [Qc (Ne.symm c)]
 rwa [e] at w
end
inductive Out where
 | nx (δ:List Sl)
 | ct (δ:List Sl)
 | rt (d:D) (δ:List Sl)
def RetR (K:PySem.W.Frag) (Y:Fx) (fr:Fr) (F H:Hp) (A:Nat → List Addr) (v:V) (d:D):Prop :=
 match fr with
 | .n=>Rp K F v d
 | .t=>PlT K F v d
 | .l=>∃ p,v = .ref p ∧ Y.H0 p = none ∧ F p = none ∧ (∀ i,Y.io i = true → p ∉ A i) ∧ Wz K F H p d
 | .p=>∃ a p q d0 d1,v = .ref a ∧ d = .tuple [d0,d1] ∧ H a = some (.tup [.ref p,.ref q]) ∧ p ≠ q ∧ (Y.H0 p = none ∧ F p = none ∧ (∀ i,Y.io i = true → p ∉ A i) ∧ Wz K F H p d0) ∧ Y.H0 q = none ∧ F q = none ∧ (∀ i,Y.io i = true → q ∉ A i) ∧ Wz K F H q d1
 | .s j=>d = .none ∧ Y.io j = true ∧ ∃ p,v = .ref p ∧ A j = [p]
def Qaq (K:PySem.W.Frag) (Y:Fx) (fr:Fr) (F:Hp) (D:Ends):Out → Prop
 | .nx δ'=>∀ σ' F' H' A',Same F F' → SR K Y F' H' δ' σ' A' → D.nx σ' H'
 | .ct δ'=>∀ σ' F' H' A',Same F F' → SR K Y F' H' δ' σ' A' → D.ct σ' H'
 | .rt d δ'=>∀ v σ' F' H' A',Same F F' → SR K Y F' H' δ' σ' A' → RetR K Y fr F' H' A' v d → D.rt v H'
def SV (X:Cx) (io:Iom) (fr:Fr) (st:Stmt) (g:List Sl → Option Out):Prop :=
 ∃ t,PS X st t ∧ ∀ (Y:Fx) (F H:Hp) (δ:List Sl) (σ:L2.St) (A:Nat → List Addr),Y.io = io → SR X.K Y F H δ σ A → ∀ (o:Out),g δ = some o → ∀ D:Ends,Qaq X.K Y fr F D o → t D σ H
def BV (X:Cx) (io:Iom) (fr:Fr) (st:List Stmt) (g:List Sl → Option Out):Prop :=
 ∃ t,PSs X st t ∧ ∀ (Y:Fx) (F H:Hp) (δ:List Sl) (σ:L2.St) (A:Nat → List Addr),Y.io = io → SR X.K Y F H δ σ A → ∀ (o:Out),g δ = some o → ∀ D:Ends,Qaq X.K Y fr F D o → t D σ H
theorem Qaq.mono {K:PySem.W.Frag} {Y:Fx} {fr:Fr} {F F':Hp} {D:Ends} {o:Out} (h:Qaq K Y fr F D o) (s:Same F F'):Qaq K Y fr F' D o:=by
 cases o with
 | nx δ=>exact fun σ' F1 H' A' s1=>h σ' F1 H' A' (s.trans s1)
 | ct δ=>exact fun σ' F1 H' A' s1=>h σ' F1 H' A' (s.trans s1)
 | rt d δ=>exact fun v σ' F1 H' A' s1=>h v σ' F1 H' A' (s.trans s1)
section
variable {X:Cx} {io:Iom} {fr:Fr} {st:Stmt} {rest:List Stmt} {pos:Pos} {g g':List Sl → Option Out}
def Ju (g g':List Sl → Option Out):List Sl → Option Out:=fun δ=>(g δ).bind fun o=>match o with
 | .nx δ1=>g' δ1
 | .ct δ1=>some (.ct δ1)
 | .rt d δ1=>some (.rt d δ1)
def Xt:List Sl → Option Out:=fun δ=>some (.nx δ)
theorem X5:BV X io fr [] Xt:=by
 refine ⟨_,pss_nil,fun Y F H δ σ A _ S o e D k=>?_⟩
 cases e
 exact k σ F H A (Same.refl _) S
theorem Jm (h1:SV X io fr st g) (h2:BV X io fr rest g'):BV X io fr (st :: rest) (Ju g g'):=by
 obtain ⟨t,p,q⟩:=h1
 obtain ⟨t2,p2,q2⟩:=h2
 refine ⟨_,pss_cons p p2,fun Y F H δ σ A hY S o e D k=>?_⟩
 unfold Ju at e
 cases e1:g δ with
 | none=>rw [e1] at e; cases e
 | some o1 =>
  rw [e1] at e
  refine q Y F H δ σ A hY S o1 e1 _ ?_
  cases o1 with
  | nx δ1=>exact fun σ' F' H' A' s S'=>q2 Y F' H' δ1 σ' A' hY S' o e D (k.mono s)
  | ct δ1=>cases e; exact k
  | rt d δ1=>cases e; exact k
def Ya (vs:List Nat) (δ:List Sl):List Sl:=vs.foldr (fun j δ=>δ.set j .no) δ
theorem SR.wipeAll {K:PySem.W.Frag} {Y:Fx} {F H:Hp} {σ:L2.St}:∀ {vs:List Nat} {δ:List Sl} {A:Nat → List Addr},SR K Y F H δ σ A → (∀ i ∈ vs,Y.io i = false) → ∃ A',SR K Y F H (Ya vs δ) σ A'
 | [],δ,A,S,_=>⟨A,S⟩
 | i :: vs,δ,A,S,h=>by
  obtain ⟨A',S'⟩:=SR.wipeAll (vs:=vs) S fun j hj=>h j (Q4 _ hj)
  by_cases c:i < (Ya vs δ).length
  ·exact ⟨_,S'.wipe1 c (h i Q5)⟩
  ·refine ⟨A',?_⟩
   show SR K Y F H ((Ya vs δ).set i .no) σ A'
   rw [List.set_eq_of_length_le (by omega)]
   exact S'
def Q2R (vs:List Nat) (g:List Sl → Option Out):List Sl → Option Out:=fun δ=>g (Ya vs δ)
theorem Zd {vs:List Nat} (hio:vs.all (fun i=>!io i) = true) (h:SV X io fr st g):SV X io fr st (Q2R vs g):=by
 obtain ⟨t,p,q⟩:=h
 refine ⟨_,p,fun Y F H δ σ A hY S o e D k=>?_⟩
 obtain ⟨A',S'⟩:=S.wipeAll (vs:=vs) fun i hi=>by
  rw [hY]
  have:=Qq.mp hio i hi
  simpa using this
 exact q Y F H _ σ A' hY S' o e D k
def Kk (vs:List Nat):List Sl → Option Out:=fun δ=>some (.nx (Ya vs δ))
def Q7H (vs:List Nat):List Sl → Option Out:=fun δ=>some (.ct (Ya vs δ))
theorem Vs {vs:List Nat} (hio:vs.all (fun i=>!io i) = true):BV X io fr [] (Kk vs):=by
 refine ⟨_,pss_nil,fun Y F H δ σ A hY S o e D k=>?_⟩
 obtain ⟨A',S'⟩:=S.wipeAll (vs:=vs) fun i hi=>by
  rw [hY]
  have:=Qq.mp hio i hi
  simpa using this
 cases e
 exact k σ F H A' (Same.refl _) S'
def Ys (i:Nat) (f:List Sl → Option (D × List Sl)):List Sl → Option Out:=fun δ=>(f δ).bind fun p=>if i < p.2.length then some (.nx (p.2.set i (.fz p.1))) else none
def Zk (i:Nat) (f:List Sl → Option (D × List Sl)):List Sl → Option Out:=fun δ=>(f δ).bind fun p=>if i < p.2.length then some (.nx (p.2.set i (.ow p.1))) else none
structure Tg (X:Cx) (i:Nat) (x:Str):Prop where
 nd:X.N.Nodup
 at_:X.N[i]? = some x
 loc:Loc X.env.scope x
 fn:X.fn x = true ∨ X.env.scope.names.lookup x = some .local
theorem Y4 {i:Nat} {x:Str} {e:Expr} {f} {M:List Nat} {pos':Pos} (hio:io i = false) (T:Tg X i x) (h:EV X e f [] M) (hs:swapsWith e (some (.Name x pos')) pos.line X.env = pure false:=by rfl):SV X io fr (.Assign [.Name x pos'] e pos) (Ys i f):=by
 obtain ⟨t,p,q⟩:=h
 refine ⟨_,ps_set T.nd T.at_ T.loc p hs T.fn,fun Y F H δ σ A hY S o e D k=>?_⟩
 unfold Ys at e
 cases e1:f δ with
 | none=>rw [e1] at e; cases e
 | some p =>
  obtain ⟨d,δ1⟩:=p
  rw [e1] at e
  simp only [Q1] at e
  split at e
  ·rename_i hi
   cases e
   refine q Y F H δ σ A S d δ1 e1 _ fun v F1 H1 st S1 r=>?_
   exact k _ F1 H1 _ st.f (S1.putFz hi (by rw [hY]; exact hio) r.nil)
  ·cases e
theorem Q0b {i:Nat} {x:Str} {e:Expr} {f} {M:List Nat} {pos':Pos} (hio:io i = false) (T:Tg X i x) (h:NV X e f M) (hs:swapsWith e (some (.Name x pos')) pos.line X.env = pure false:=by rfl):SV X io fr (.Assign [.Name x pos'] e pos) (Zk i f):=by
 obtain ⟨t,p,q⟩:=h
 refine ⟨_,ps_set T.nd T.at_ T.loc p hs T.fn,fun Y F H δ σ A hY S o e D k=>?_⟩
 unfold Zk at e
 cases e1:f δ with
 | none=>rw [e1] at e; cases e
 | some p =>
  obtain ⟨d,δ1⟩:=p
  rw [e1] at e
  simp only [Q1] at e
  split at e
  ·rename_i hi
   cases e
   refine q Y F H δ σ A S d δ1 e1 _ fun p F1 H1 st S1 n hF r=>?_
   exact k _ F1 H1 _ st.f (S1.putOw hi (by rw [hY]; exact hio) (S.fresh0 n) hF (fun j hj=>S.isSome hj n) r)
  ·cases e
def Yl (f:List Sl → Option (D × List Sl)):List Sl → Option Out:=fun δ=>(f δ).map fun p=>.rt p.1 p.2
theorem Xy {e:Expr} {f} {M:List Nat} (h:EV X e f [] M):SV X io .n (.Return (some e) pos) (Yl f):=by
 obtain ⟨t,p,q⟩:=h
 refine ⟨_,ps_ret p,fun Y F H δ σ A hY S o e D k=>?_⟩
 unfold Yl at e
 cases e1:f δ with
 | none=>rw [e1] at e; cases e
 | some p =>
  obtain ⟨d,δ1⟩:=p
  rw [e1] at e
  cases e
  exact q Y F H δ σ A S d δ1 e1 _ fun v F1 H1 st S1 r=>k v σ F1 H1 A st.f S1 r.nil
theorem Qb7 {e:Expr} {f} {M:List Nat} (h:NV X e f M):SV X io .l (.Return (some e) pos) (Yl f):=by
 obtain ⟨t,p,q⟩:=h
 refine ⟨_,ps_ret p,fun Y F H δ σ A hY S o e D k=>?_⟩
 unfold Yl at e
 cases e1:f δ with
 | none=>rw [e1] at e; cases e
 | some p =>
  obtain ⟨d,δ1⟩:=p
  rw [e1] at e
  cases e
  exact q Y F H δ σ A S d δ1 e1 _ fun p F1 H1 st S1 n hF r=>k _ σ F1 H1 A st.f S1 ⟨p,rfl,S.fresh0 n,hF,fun i _ z=>S.isSome z n,r⟩
def Q4I (i:Nat):List Sl → Option Out:=fun δ=>match δ[i]? with
 | some (.ow d)=>some (.rt d δ)
 | _=>none
theorem Q7P {i:Nat} {x:Str} {p':Pos} (hio:io i = false) (hN:X.N[i]? = some x) (hv:Vis X.env.scope x) (h1:(x == ("__debug__":Str)) = false) (h2:(x == ("__classdict__":Str)) = false):SV X io .l (.Return (some (.Name x p')) pos) (Q4I i):=by
 refine ⟨_,ps_ret (pe_var hN hv h1 h2),fun Y F H δ σ A hY S o e D k=>?_⟩
 unfold Q4I at e
 split at e
 ·rename_i d hd
  cases e
  obtain ⟨p,e2,e3,r⟩:=S.slot i _ hd
  have hp:p ∈ A i:=by rw [e3]; simp
  refine ⟨_,Vb e2,k _ σ F H A (Same.refl _) S ⟨p,rfl,S.new i p hp (S.nlt (by rw [hY]; exact hio)),S.hid i p hp,fun j hj z=>?_,r⟩⟩
  have:=S.dis i j p hp z
  subst this
  rw [hY,hio] at hj
  cases hj
 ·cases e
def Q3q (f:List Sl → Option (D × List Sl)):List Sl → Option Out:=fun δ=>(f δ).map fun p=>.nx p.2
theorem Q3Z {e:Expr} {f} {R M:List Nat} (h:EV X e f R M) (hs:swapsWith e none pos.line X.env = pure false:=by rfl):SV X io fr (.Expr e pos) (Q3q f):=by
 obtain ⟨t,p,q⟩:=h
 refine ⟨_,ps_expr p hs,fun Y F H δ σ A hY S o e D k=>?_⟩
 unfold Q3q at e
 cases e1:f δ with
 | none=>rw [e1] at e; cases e
 | some p =>
  obtain ⟨d,δ1⟩:=p
  rw [e1] at e
  cases e
  exact q Y F H δ σ A S d δ1 e1 _ fun v F1 H1 st S1 r=>k σ F1 H1 A st.f S1
theorem Q9D {vs:List Nat} (hio:vs.all (fun i=>!io i) = true):SV X io fr (.Continue pos) (Q7H vs):=by
 refine ⟨_,ps_continue,fun Y F H δ σ A hY S o e D k=>?_⟩
 obtain ⟨A',S'⟩:=S.wipeAll (vs:=vs) fun i hi=>by
  rw [hY]
  have:=Qq.mp hio i hi
  simpa using this
 cases e
 exact k σ F H A' (Same.refl _) S'
def sIf (c:List Sl → Option (Bool × List Sl)) (g g':List Sl → Option Out):List Sl → Option Out:=fun δ=>(c δ).bind fun p=>match p.1 with | true=>g p.2 | false=>g' p.2
theorem Vy {c:Expr} {a b:List Stmt} {gc} {M:List Nat} (hc:TV X c gc M) (ha:BV X io fr a g) (hb:BV X io fr b g'):SV X io fr (.If c a b pos) (sIf gc g g'):=by
 obtain ⟨t,p,q⟩:=hc
 obtain ⟨ta,pa,qa⟩:=ha
 obtain ⟨tb,pb,qb⟩:=hb
 refine ⟨_,ps_if p pa pb,fun Y F H δ σ A hY S o e D k=>?_⟩
 unfold sIf at e
 cases e1:gc δ with
 | none=>rw [e1] at e; cases e
 | some p =>
  obtain ⟨b1,δ1⟩:=p
  rw [e1] at e
  refine q Y F H δ σ A S b1 δ1 e1 _ fun F1 H1 st S1=>?_
  cases b1 with
  | true=>exact iteT (qa Y F1 H1 δ1 σ A hY S1 o e D (k.mono st.f))
  | false=>exact iteF (qb Y F1 H1 δ1 σ A hY S1 o e D (k.mono st.f))
end
end Z
namespace Z
open PySem PySem.Spec PyProof.Rows L2
section
variable {X:Cx} {pos:Pos}
structure Mc (X:Cx) (o:Expr) (name:Str) (apos:Pos) (e:Expr) (es:List Expr) (cpos:Pos):Prop where
 base:attributeBase o name X.env (eval o X.env) = eval o X.env
 few:((backTo cpos (starEach (e :: es) X.env)).all (fun x=>!x.1) && (backToKw cpos (keywordEach [] X.env)).all (fun x=>x.1.isSome) && decide ((e :: es).length + ([]:List Keyword).length + (if ([]:List Keyword).isEmpty then 0 else 1) < 30)) = true
 line:(apos.endLine == cpos.line) = true
 star:starEach (e :: es) X.env = (false,eval e X.env) :: starEach es X.env
 plain:(backTo cpos (starEach es X.env)).any (·.1) = false
structure Mc0 (X:Cx) (o:Expr) (name:Str) (apos:Pos) (cpos:Pos):Prop where
 base:attributeBase o name X.env (eval o X.env) = eval o X.env
 line:(apos.endLine == cpos.line) = true
structure Nm (X:Cx) (i:Nat) (x:Str):Prop where
 at_:X.N[i]? = some x
 vis:Vis X.env.scope x
 db:(x == ("__debug__":Str)) = false
 cd:(x == ("__classdict__":Str)) = false
theorem Nm.pe {i:Nat} {x:Str} (n:Nm X i x):PE X (.Name x pos) (tVar i):=pe_var n.at_ n.vis n.db n.cd
def ownL (i:Nat) (δ:List Sl):Option (List D):=match δ[i]? with
 | some (.ow (.list ds))=>some ds
 | _=>none
theorem Q1s {i:Nat} {δ:List Sl} {ds:List D} (h:ownL i δ = some ds):δ[i]? = some (.ow (.list ds)):=by
 unfold ownL at h
 split at h
 ·rename_i e; cases h; exact e
 ·cases h
theorem SR.ownL {K:PySem.W.Frag} {Y:Fx} {F H:Hp} {δ:List Sl} {σ:L2.St} {A:Nat → List Addr} {i:Nat} {ds:List D} (S:SR K Y F H δ σ A) (h:Z.ownL i δ = some ds):∃ p xs,σ[i]? = some (some (.ref p)) ∧ A i = [p] ∧ H p = some (.lst xs) ∧ Rps K F xs ds:=by
 obtain ⟨p,e1,e2,xs,h1,h2⟩:=S.slot i _ (Q1s h)
 exact ⟨p,xs,Vb e1,e2,h1,h2⟩
def Q71 (i:Nat) (f:List Sl → Option (D × List Sl)):List Sl → Option (D × List Sl):=fun δ=>(ownL i δ).bind fun _=>(f δ).bind fun p=>(ownL i p.2).bind fun ds=>if ds.length < sizeLine then some (.none,p.2.set i (.ow (.list (ds ++ [p.1])))) else none
theorem tyL {K:PySem.W.Frag} {H:Hp} {p:Addr} {xs:List V} (h:H p = some (.lst xs)):tyV K "list" (.ref p) H:=.inl ⟨rfl,xs,SqL.of h⟩
theorem Q9T {i:Nat} {x:Str} {e:Expr} {f} {M:List Nat} {p1 apos:Pos} (n:Nm X i x) (h:EV X e f [] M) (m:Mc X (.Name x p1) "append" apos e [] pos):EV X (.Call (.Attribute (.Name x p1) "append" apos) [e] [] pos) (Q71 i f) [] (i :: M):=by
 obtain ⟨t,p,q⟩:=h
 refine ⟨_,pe_bm PySem.F.plainAttrs_list PySem.F.slot_list_append PySem.F.type_list_append mt_append n.pe (pa_cons p pa_nil m.star) m.base m.few m.line m.star m.plain,fun Y F H δ σ A S z δ' e Q k=>?_⟩
 unfold Q71 at e
 cases e0:ownL i δ with
 | none=>rw [e0] at e; cases e
 | some ds0 =>
  rw [e0] at e
  simp only [Q1] at e
  cases e1:f δ with
  | none=>rw [e1] at e; cases e
  | some w =>
   obtain ⟨d,δ1⟩:=w
   rw [e1] at e
   simp only [Q1] at e
   cases e2:ownL i δ1 with
   | none=>rw [e2] at e; cases e
   | some ds =>
    rw [e2] at e
    simp only [Q1] at e
    split at e
    ·rename_i hz
     cases e
     obtain ⟨a,ys,s1,_,s2,_⟩:=S.ownL e0
     refine ⟨.ref a,s1,tyL s2,?_⟩
     refine q Y F H δ σ A S d δ1 e1 _ fun v F1 H1 st S1 r=>?_
     obtain ⟨b,xs,s3,s4,s5,s6⟩:=S1.ownL e2
     have:b = a:=by
      rw [s1] at s3
      cases s3
      rfl
     subst this
     refine ⟨b,xs,v,rfl,rfl,s5,by rw [s6.length]; exact hz,?_⟩
     have hO:Wz X.K F1 (upd H1 b (.lst (xs ++ [v]))) b (.list (ds ++ [d])):=⟨_,upd_same,s6.append (.cons r.nil .nil)⟩
     refine k _ F1 _ ?_ (S1.chg (Q1s e2) s4 hO) (.inl .non)
     exact ((st.mono (fun j hj=>Q4 i hj)).trans S1 (Stp.chg (i:=i) (M:=[i]) (by simp) (by rw [s4]; simp))).mono fun j hj=>by
      rcases Q9.mp hj with z | z
      ·exact z
      ·simp at z; subst z; exact Q5
    ·cases e
def Q9o (i:Nat) (f:List Sl → Option (D × List Sl)):List Sl → Option (D × List Sl):=fun δ=>(ownL i δ).bind fun _=>(f δ).bind fun p=>match p.1 with
 | .list es=>(ownL i p.2).bind fun ds=>if ds.length + es.length ≤ sizeLine then some (.none,p.2.set i (.ow (.list (ds ++ es)))) else none
 | _=>none
theorem Qdj {i:Nat} {x:Str} {e:Expr} {f} {R M:List Nat} {p1 apos:Pos} (n:Nm X i x) (h:EV X e f R M) (m:Mc X (.Name x p1) "extend" apos e [] pos):EV X (.Call (.Attribute (.Name x p1) "extend" apos) [e] [] pos) (Q9o i f) [] (i :: M):=by
 obtain ⟨t,p,q⟩:=h
 refine ⟨_,pe_bm PySem.F.plainAttrs_list PySem.F.slot_list_extend PySem.F.type_list_extend mt_extend n.pe (pa_cons p pa_nil m.star) m.base m.few m.line m.star m.plain,fun Y F H δ σ A S z δ' e Q k=>?_⟩
 unfold Q9o at e
 cases e0:ownL i δ with
 | none=>rw [e0] at e; cases e
 | some ds0 =>
  rw [e0] at e
  simp only [Q1] at e
  cases e1:f δ with
  | none=>rw [e1] at e; cases e
  | some w =>
   obtain ⟨d,δ1⟩:=w
   rw [e1] at e
   simp only [Q1] at e
   split at e
   ·rename_i es
    cases e2:ownL i δ1 with
    | none=>rw [e2] at e; cases e
    | some ds =>
     rw [e2] at e
     simp only [Q1] at e
     split at e
     ·rename_i hz
      cases e
      obtain ⟨a,ys,s1,_,s2,_⟩:=S.ownL e0
      refine ⟨.ref a,s1,tyL s2,?_⟩
      refine q Y F H δ σ A S _ δ1 e1 _ fun v F1 H1 st S1 r=>?_
      obtain ⟨c,zs,rfl,h1,h2⟩:=r.list S1
      obtain ⟨b,xs,s3,s4,s5,s6⟩:=S1.ownL e2
      have:b = a:=by
       rw [s1] at s3
       cases s3
       rfl
      subst this
      refine ⟨b,c,xs,zs,rfl,rfl,s5,h1,by rw [s6.length,h2.length]; exact hz,?_⟩
      have hO:Wz X.K F1 (upd H1 b (.lst (xs ++ zs))) b (.list (ds ++ es)):=⟨_,upd_same,s6.append h2⟩
      refine k _ F1 _ ?_ (S1.chg (Q1s e2) s4 hO) (.inl .non)
      exact ((st.mono (fun j hj=>Q4 i hj)).trans S1 (Stp.chg (i:=i) (M:=[i]) (by simp) (by rw [s4]; simp))).mono fun j hj=>by
       rcases Q9.mp hj with z | z
       ·exact z
       ·simp at z; subst z; exact Q5
     ·cases e
   ·cases e
theorem Rps.dropLast {K:PySem.W.Frag} {G:Hp} {xs:List V} {ds:List D} (h:Rps K G xs ds):Rps K G xs.dropLast ds.dropLast:=by
 rw [List.dropLast_eq_take,List.dropLast_eq_take,h.length]
 exact h.take _
def Q34 (i:Nat) (f:List Sl → Option (D × List Sl)):List Sl → Option (D × List Sl):=fun δ=>(ownL i δ).bind fun _=>(f δ).bind fun p=>match p.1 with
 | .int n=>(ownL i p.2).bind fun ds=>if 0 ≤ n ∧ ds.length ≤ sizeLine then (ds[n.toNat]?).map fun d=>(d,p.2.set i (.ow (.list (ds.eraseIdx n.toNat)))) else none
 | _=>none
theorem Q6b {i:Nat} {x:Str} {e:Expr} {f} {R M:List Nat} {p1 apos:Pos} (n:Nm X i x) (h:EV X e f R M) (m:Mc X (.Name x p1) "pop" apos e [] pos):EV X (.Call (.Attribute (.Name x p1) "pop" apos) [e] [] pos) (Q34 i f) [] (i :: M):=by
 obtain ⟨t,p,q⟩:=h
 refine ⟨_,pe_bm PySem.F.plainAttrs_list PySem.F.slot_list_pop PySem.F.type_list_pop mt_popAt n.pe (pa_cons p pa_nil m.star) m.base m.few m.line m.star m.plain,fun Y F H δ σ A S z δ' e Q k=>?_⟩
 unfold Q34 at e
 cases e0:ownL i δ with
 | none=>rw [e0] at e; cases e
 | some ds0 =>
  rw [e0] at e
  simp only [Q1] at e
  cases e1:f δ with
  | none=>rw [e1] at e; cases e
  | some w =>
   obtain ⟨d,δ1⟩:=w
   rw [e1] at e
   simp only [Q1] at e
   split at e
   ·rename_i nn
    cases e2:ownL i δ1 with
    | none=>rw [e2] at e; cases e
    | some ds =>
     rw [e2] at e
     simp only [Q1] at e
     split at e
     ·rename_i hz
      cases e3:ds[nn.toNat]? with
      | none=>rw [e3] at e; cases e
      | some dd =>
       rw [e3] at e
       cases e
       obtain ⟨a,ys,s1,_,s2,_⟩:=S.ownL e0
       refine ⟨.ref a,s1,tyL s2,?_⟩
       refine q Y F H δ σ A S _ δ1 e1 _ fun v F1 H1 st S1 r=>?_
       obtain ⟨b,xs,s3,s4,s5,s6⟩:=S1.ownL e2
       have:b = a:=by
        rw [s1] at s3
        cases s3
        rfl
       subst this
       obtain ⟨v0,v1,v2⟩:=s6.get e3
       have hlt:nn.toNat < ds.length:=(Qi.mp e3).1
       have hsz:=sizeLine_eq
       refine ⟨b,xs,nn,nn.toNat,v0,rfl,by rw [r.int],s5,by omega,by omega,?_,v1,?_⟩
       ·rw [s6.length]
        exact seqIndex_of hz.1 (by omega)
       ·have hO:Wz X.K F1 (upd H1 b (.lst (xs.eraseIdx nn.toNat))) b (.list (ds.eraseIdx nn.toNat)):=⟨_,upd_same,s6.eraseIdx _⟩
        refine k _ F1 _ ?_ (S1.chg (Q1s e2) s4 hO) (.inl v2)
        exact ((st.mono (fun j hj=>Q4 i hj)).trans S1 (Stp.chg (i:=i) (M:=[i]) (by simp) (by rw [s4]; simp))).mono fun j hj=>by
         rcases Q9.mp hj with z | z
         ·exact z
         ·simp at z; subst z; exact Q5
     ·cases e
   ·cases e
def Q90 (ds:List (D × D)) (k:Key) (d:D):List (D × D):=if ds.any (fun p=>decide (Vg p.1 = some k)) then ds.map (fun p=>if Vg p.1 = some k then (p.1,d) else p) else ds ++ [(Q4e k,d)]
theorem RpK.length {K:PySem.W.Frag} {G:Hp}:∀ {kvs:List (Key × V)} {ds:List (D × D)},RpK K G kvs ds → kvs.length = ds.length
 | _,_,.nil=>rfl
 | _,_,.cons _ r=>congrArg (· + 1) r.length
theorem RpK.append {K:PySem.W.Frag} {G:Hp}:∀ {kvs lws:List (Key × V)} {ds es:List (D × D)},RpK K G kvs ds → RpK K G lws es → RpK K G (kvs ++ lws) (ds ++ es)
 | _,_,_,_,.nil,s=>s
 | _,_,_,_,.cons h r,s=>.cons h (r.append s)
theorem RpK.any {K:PySem.W.Frag} {G:Hp} (k:Key):∀ {kvs:List (Key × V)} {ds:List (D × D)},RpK K G kvs ds → (kvs.any fun kv=>decide (kv.1 = k)) = ds.any fun p=>decide (Vg p.1 = some k)
 | _,_,.nil=>rfl
 | _,_,.cons (k:=k0) h r=>by
  rw [List.any_cons,List.any_cons,r.any k,Zn]
  by_cases e:k0 = k <;> simp [e]
theorem RpK.repl {K:PySem.W.Frag} {G:Hp} (k:Key) {v:V} {d:D} (hv:Rp K G v d):∀ {kvs:List (Key × V)} {ds:List (D × D)},RpK K G kvs ds → RpK K G (kvs.map fun kv=>if kv.1 = k then (kv.1,v) else kv) (ds.map fun p=>if Vg p.1 = some k then (p.1,d) else p)
 | _,_,.nil=>.nil
 | _,_,.cons (k:=k0) h r=>by
  rw [Qm,Qm]
  simp only [Zn]
  by_cases e:k0 = k
  ·rw [if_pos e,if_pos (congrArg some e)]
   exact .cons hv (r.repl k hv)
  ·rw [if_neg e,if_neg fun z=>e (J4.inj z)]
   exact .cons h (r.repl k hv)
theorem RpK.put {K:PySem.W.Frag} {G:Hp} {kvs:List (Key × V)} {ds:List (D × D)} (k:Key) {v:V} {d:D} (h:RpK K G kvs ds) (hv:Rp K G v d):RpK K G (putK kvs k v) (Q90 ds k d):=by
 unfold putK Q90
 rw [← h.any k]
 split
 ·exact h.repl k hv
 ·exact h.append (.cons hv .nil)
def Q4c (d k v:D):Option D:=match d with
 | .list ds=>match k with
  | .int i=>(ixN ds.length i).map fun j=>.list (ds.set j v)
  | _=>none
 | .dict ds=>(Vg k).bind fun k=>if ds.length < sizeLine then some (.dict (Q90 ds k v)) else none
 | _=>none
def Qcq:TSet:=fun o i v H Q=>rSetL o i v H Q ∨ ∃ a H',o = .ref a ∧ DPut H a i v H' ∧ Q H'
theorem Qcu (hu:X.A.units + 1 < cLine):PSet X Qcq:=by
 intro pins s σ H o i v ov iv u Q I ro ri rv h
 rcases h with h | ⟨a,H',rfl,g,q⟩
 ·exact set_list pins s σ H o i v ov iv u Q I ro ri rv h
 ·cases ro
  exact d_setItem hu I g ri rv fun s' I'=>⟨H',I',q⟩
theorem Q9s {K:PySem.W.Frag} {Y:Fx} {F H:Hp} {δ:List Sl} {σ:L2.St} {A:Nat → List Addr} {p:Addr} {d k v d':D} {y z:V} (S:SR K Y F H δ σ A) (o:Wz K F H p d) (ry:Rp K F y k ∨ ∃ R,Vw K F H A R y k) (rz:Rp K F z v) (h:Q4c d k v = some d') :
  ∃ u,Wz K F (upd H p u) p d' ∧ ∀ Q:Hp → Prop,Q (upd H p u) → Qcq (.ref p) y z H Q:=by
 have ek:∀ kk,Vg k = some kk → y = kV kk:=fun kk e=>by
  rcases ry with r | ⟨R,r⟩
  ·exact Q44 e r
  ·exact Q44 e (r.ex S)
 have ei:∀ i,k = .int i → y = .int i:=fun i e=>by
  subst e
  exact ek (.inl i) rfl
 unfold Q4c at h
 split at h
 ·rename_i ds
  obtain ⟨xs,h1,r1⟩:=o
  split at h
  ·rename_i i
   cases e1:ixN ds.length i with
   | none=>rw [e1] at h; cases h
   | some j =>
    rw [e1] at h
    cases h
    refine ⟨.lst (xs.set j z),⟨_,upd_same,r1.set j rz⟩,fun Q q=>.inl ⟨p,xs,i,j,rfl,ei i rfl,h1,by rw [r1.length]; exact e1,q⟩⟩
  ·cases h
 ·rename_i ds
  obtain ⟨kvs,h1,r1⟩:=o
  cases e1:Vg k with
  | none=>rw [e1] at h; cases h
  | some kk =>
   rw [e1] at h
   simp only [Q1] at h
   split at h
   ·rename_i hz
    cases h
    have:=ek kk e1
    subst this
    exact ⟨.dK (putK kvs kk z),⟨_,upd_same,r1.put kk rz⟩,fun Q q=>.inr ⟨p,_,rfl,DPut.k h1 (by rw [r1.length]; exact hz),q⟩⟩
   ·cases h
 ·cases h
def Q2c (i:Nat) (δ:List Sl):Option D:=match δ[i]? with
 | some (.ow d)=>some d
 | _=>none
theorem Q2W {i:Nat} {δ:List Sl} {d:D} (h:Q2c i δ = some d):δ[i]? = some (.ow d):=by
 unfold Q2c at h
 split at h
 ·rename_i e; cases h; exact e
 ·cases h
def Q0l (i:Nat) (fk fv:List Sl → Option (D × List Sl)):List Sl → Option Out:=fun δ=>(fv δ).bind fun p=>(Q2c i p.2).bind fun _=>(fk p.2).bind fun q=>(Q2c i q.2).bind fun d=>(Q4c d q.1 p.1).map fun d'=>.nx (q.2.set i (.ow d'))
structure Pc (X:Cx) (o i:Expr) (v:Expr) (tpos:Pos) (line:Nat):Prop where
 sw:swapsWithSole [.Subscript o i tpos] v line X.env = pure false
 st:swappedStores [.Subscript o i tpos] v X.env = pure none
 ea:(assignEach [.Subscript o i tpos] X.env).map (·.2) = [assign (.Subscript o i tpos) X.env]
 as:∀ u,assign (.Subscript o i tpos) X.env u = (do
   let ov ← holding [u] (eval o X.env)
   let iv ← holding [u,ov] (eval i X.env)
   standAt tpos
   holding [u,ov,iv] (setItem ov iv u)
   release [u,ov,iv] [])
theorem Kh {io:Iom} {fr:Fr} {i:Nat} {x:Str} {ek v:Expr} {fk fv} {Rk Mk Mv:List Nat} {p1 tpos:Pos} (hu:X.A.units + 1 < cLine) (n:Nm X i x) (hk:EV X ek fk Rk Mk) (hv:EV X v fv [] Mv) (c:Pc X (.Name x p1) ek v tpos pos.line) :
  SV X io fr (.Assign [.Subscript (.Name x p1) ek tpos] v pos) (Q0l i fk fv):=by
 obtain ⟨tk,pk,qk⟩:=hk
 obtain ⟨tv,pv,qv⟩:=hv
 refine ⟨_,ps_asg pv (pg_sub n.pe pk (Qcu hu) c.as) c.sw c.st c.ea,fun Y F H δ σ A hY S o e D k=>?_⟩
 unfold Q0l at e
 cases e1:fv δ with
 | none=>rw [e1] at e; cases e
 | some w =>
  obtain ⟨d,δ1⟩:=w
  rw [e1] at e
  simp only [Q1] at e
  cases e2:Q2c i δ1 with
  | none=>rw [e2] at e; cases e
  | some d0 =>
   rw [e2] at e
   simp only [Q1] at e
   cases e3:fk δ1 with
   | none=>rw [e3] at e; cases e
   | some w =>
    obtain ⟨dk,δ2⟩:=w
    rw [e3] at e
    simp only [Q1] at e
    cases e4:Q2c i δ2 with
    | none=>rw [e4] at e; cases e
    | some d1 =>
     rw [e4] at e
     simp only [Q1] at e
     cases e5:Q4c d1 dk d with
     | none=>rw [e5] at e; cases e
     | some d' =>
      rw [e5] at e
      cases e
      refine qv Y F H δ σ A S d δ1 e1 _ fun z F1 H1 st1 S1 r1=>?_
      obtain ⟨a,s1,_,_⟩:=S1.slot i _ (Q2W e2)
      refine ⟨.ref a,Vb s1,?_⟩
      refine qk Y F1 H1 δ1 σ A S1 dk δ2 e3 _ fun y F2 H2 st2 S2 r2=>?_
      obtain ⟨b,s3,s4,s5⟩:=S2.slot i _ (Q2W e4)
      have:b = a:=by
       rw [s1] at s3
       cases s3
       rfl
      subst this
      obtain ⟨u,o2,go⟩:=Q9s S2 s5 (.inr ⟨_,r2⟩) (r1.nil.mono st2.f) e5
      exact go _ (k σ F2 _ A (st1.f.trans st2.f) (S2.chg (Q2W e4) s4 o2))
end
end Z
namespace Z
open PySem PySem.Spec PyProof.Rows L2
inductive Tt where
 | nm (i:Nat)
 | nil
 | cons (a b:Tt)
mutual
/-- a target takes a datum -/
def Y7:Tt → D → List Sl → Option (List Sl)
 | .nm i,d,δ=>if i < δ.length then some (δ.set i (.fz d)) else none
 | .nil,d,δ=>match d with
  | .tuple ds=>Y2 .nil ds δ
  | _=>none
 | .cons a b,d,δ=>match d with
  | .tuple ds=>Y2 (.cons a b) ds δ
  | _=>none
def Y2:Tt → List D → List Sl → Option (List Sl)
 | .nil,[],δ=>some δ
 | .cons a b,d :: ds,δ=>(Y7 a d δ).bind fun δ1=>Y2 b ds δ1
 | _,_,_=>none
end
mutual
theorem Q2k:∀ {T:Tt} {d:D} {δ δ':List Sl},Y7 T d δ = some δ' → δ'.length = δ.length
 | .nm i,d,δ,δ',h=>by
  unfold Y7 at h
  split at h
  ·cases h
   rw [Qk]
  ·cases h
 | .nil,d,δ,δ',h=>by
  unfold Y7 at h
  cases d with
  | tuple ds=>exact Q07 h
  | _=>cases h
 | .cons a b,d,δ,δ',h=>by
  unfold Y7 at h
  cases d with
  | tuple ds=>exact Q07 h
  | _=>cases h
theorem Q07:∀ {T:Tt} {ds:List D} {δ δ':List Sl},Y2 T ds δ = some δ' → δ'.length = δ.length
 | .nm i,ds,δ,δ',h=>by
  unfold Y2 at h
  cases h
 | .nil,[],δ,δ',h=>by
  unfold Y2 at h
  cases h
  rfl
 | .nil,_ :: _,δ,δ',h=>by
  unfold Y2 at h
  cases h
 | .cons a b,[],δ,δ',h=>by
  unfold Y2 at h
  cases h
 | .cons a b,d :: ds,δ,δ',h=>by
  unfold Y2 at h
  cases e:Y7 a d δ with
  | none=>rw [e] at h; cases h
  | some δ1 =>
   rw [e] at h
   rw [Q07 (T:=b) h,Q2k e]
end
def tS:Tt → List Nat
 | .nm i=>[i]
 | .nil=>[]
 | .cons a b=>tS a ++ tS b
structure But (l:List Nat) (σ σ':L2.St) (A A':Nat → List Addr):Prop where
 s:∀ j,j ∉ l → σ'[j]? = σ[j]?
 a:∀ j,j ∉ l → A' j = A j
 e:∀ j,j ∈ l → A' j = []
theorem But.trans {l m:List Nat} {σ σ1 σ2:L2.St} {A A1 A2:Nat → List Addr} (h:But l σ σ1 A A1) (h':But m σ1 σ2 A1 A2):But (l ++ m) σ σ2 A A2:=by
 refine ⟨fun j hj=>?_,fun j hj=>?_,fun j hj=>?_⟩
 ·simp only [Q9,not_or] at hj
  rw [h'.s j hj.2,h.s j hj.1]
 ·simp only [Q9,not_or] at hj
  rw [h'.a j hj.2,h.a j hj.1]
 ·by_cases c:j ∈ m
  ·exact h'.e j c
  ·rw [h'.a j c]
   exact h.e j ((Q9.mp hj).resolve_right c)
section
variable {X:Cx} {io:Iom}
def GV (X:Cx) (e:Expr) (T:Tt):Prop :=
 ∃ g,PG X e g ∧ ∀ (Y:Fx) (F H:Hp) (δ:List Sl) (σ:L2.St) (A:Nat → List Addr),(∀ j ∈ tS T,Y.io j = false) → SR X.K Y F H δ σ A → ∀ (x:V) (d:D) (δ':List Sl),Rp X.K F x d → Y7 T d δ = some δ' → ∀ Q:L2.St → Hp → Prop,(∀ σ' A',But (tS T) σ σ' A A' → SR X.K Y F H δ' σ' A' → Q σ' H) → g x σ H Q
def GsV (X:Cx) (es:List Expr) (T:Tt):Prop :=
 ∃ g,PGs X es g ∧ ∀ (Y:Fx) (F H:Hp) (δ:List Sl) (σ:L2.St) (A:Nat → List Addr),(∀ j ∈ tS T,Y.io j = false) → SR X.K Y F H δ σ A → ∀ (xs:List V) (ds:List D) (δ':List Sl),Rps X.K F xs ds → Y2 T ds δ = some δ' → ∀ Q:L2.St → Hp → Prop,(∀ σ' A',But (tS T) σ σ' A A' → SR X.K Y F H δ' σ' A' → Q σ' H) → g xs σ H Q
theorem X8 {i:Nat} {x:Str} {pos:Pos} (T:Tg X i x):GV X (.Name x pos) (.nm i):=by
 refine ⟨_,pg_name T.nd T.at_ T.loc T.fn,fun Y F H δ σ A hY S x d δ' r e Q k=>?_⟩
 unfold Y7 at e
 split at e
 ·rename_i hi
  cases e
  refine k _ _ ⟨fun j hj=>?_,fun j hj=>?_,fun j hj=>?_⟩ (S.putFz hi (hY i (by simp [tS])) r)
  ·rw [Qc fun c=>hj (by simp [tS,c])]
  ·exact Q1x fun c=>hj (by simp [tS,c])
  ·simp [tS] at hj
   subst hj
   exact Q1e
 ·cases e
theorem W4:GsV X [] .nil:=by
 refine ⟨_,pgs_nil,fun Y F H δ σ A hY S xs ds δ' r e Q k=>?_⟩
 cases r with
 | nil =>
  unfold Y2 at e
  cases e
  exact ⟨rfl,k _ _ ⟨fun _ _=>rfl,fun _ _=>rfl,fun j hj=>by simp [tS] at hj⟩ S⟩
 | cons _ _ =>
  unfold Y2 at e
  cases e
theorem Xo {a:Expr} {es:List Expr} {T U:Tt} (h1:GV X a T) (h2:GsV X es U) (hs:(assignEach (a :: es) X.env).map (·.2) = assign a X.env :: (assignEach es X.env).map (·.2):=by rfl):GsV X (a :: es) (.cons T U):=by
 obtain ⟨g,p,q⟩:=h1
 obtain ⟨g2,p2,q2⟩:=h2
 refine ⟨_,pgs_cons p p2 hs,fun Y F H δ σ A hY S xs ds δ' r e Q k=>?_⟩
 cases r with
 | nil =>
  unfold Y2 at e
  cases e
 | cons h r =>
  rename_i v vs d ds
  unfold Y2 at e
  cases e1:Y7 T d δ with
  | none=>rw [e1] at e; cases e
  | some δ1 =>
   rw [e1] at e
   exact ⟨v,vs,rfl,q Y F H δ σ A (fun j hj=>hY j (Qa _ hj)) S v d δ1 h e1 _ fun σ' A' b S'=>q2 Y F H δ1 σ' A' (fun j hj=>hY j (Qf _ hj)) S' vs ds δ' r e Q fun σ2 A2 b2 S2=>k σ2 A2 (b.trans b2) S2⟩
theorem QdC {es:List Expr} {k:Nat} {pos:Pos} {T:Tt} {n:Nat} (hc:X.calm = true) (h:GsV X es T) (hT:∀ i,T ≠ .nm i) (hn:(assignEach es X.env).length = n) (hlen:∀ ds δ δ',Y2 T ds δ = some δ' → ds.length = n) (hst:(assignEach es X.env).findIdx? (·.1) = none:=by rfl):GV X (.Tuple es k pos) T:=by
 obtain ⟨g,p,q⟩:=h
 refine ⟨_,pg_tup hc p hn hst,fun Y F H δ σ A hY S x d δ' r e Q k=>?_⟩
 have e2:∃ ds,d = .tuple ds ∧ Y2 T ds δ = some δ':=by
  cases T with
  | nm i=>exact absurd rfl (hT i)
  | nil =>
   unfold Y7 at e
   cases d with
   | tuple ds=>exact ⟨ds,rfl,e⟩
   | _=>cases e
  | cons a b =>
   unfold Y7 at e
   cases d with
   | tuple ds=>exact ⟨ds,rfl,e⟩
   | _=>cases e
 obtain ⟨ds,rfl,e2⟩:=e2
 cases r with
 | tup h1 r1 =>
  exact ⟨_,_,rfl,Same.sqt S.sub h1,by rw [r1.length]; exact hlen _ _ _ e2,q Y F H δ σ A hY S _ ds δ' r1 e2 Q k⟩
def Yd (K:PySem.W.Frag) (G H:Hp) (x:V) (H':Hp) (d:D):Prop :=
 (H' = H ∧ Rp K G x d) ∨ ∃ T xs es,H T = none ∧ H' = upd H T (.tup xs) ∧ x = .ref T ∧ d = .tuple es ∧ Rps K G xs es
structure Wk (K:PySem.W.Frag) (G E:Hp) (J:It) (ds:List D):Prop where
 go:∀ i H,i < ds.length → Same E H → J.go i H
 yld:∀ i H x H' d,Same E H → J.yld i H x H' → ds[i]? = some d → Yd K G H x H' d
 stop:∀ H,Same E H → J.stop ds.length H
def IV (X:Cx) (tg iter:Expr) (f:List Sl → Option (List D × List Sl)) (R M:List Nat):Prop :=
 ∃ wi,PI X tg iter wi ∧ ∀ (Y:Fx) (F H:Hp) (δ:List Sl) (σ:L2.St) (A:Nat → List Addr),SR X.K Y F H δ σ A → ∀ (ds:List D) (δ':List Sl),f δ = some (ds,δ') → ∀ Q:It → Hp → Prop,
  (∀ J F' H',Stp A M F H F' H' → SR X.K Y F' H' δ' σ A → Wk X.K F' (ex R A F' H') J ds → Q J H') → wi σ H Q
theorem PI.or {tg iter:Expr} {w1 w2:TI} (h1:PI X tg iter w1) (h2:PI X tg iter w2):PI X tg iter (fun σ H R=>w1 σ H R ∨ w2 σ H R) :=
 ⟨fun pins s σ H R I h=>h.elim (h1.run pins s σ H R I) (h2.run pins s σ H R I)⟩
def Yw:D → Option (List D)
 | .list ds=>some ds
 | .tuple ds=>some ds
 | .str z=>some (z.cps.toList.map fun c=>.str ⟨#[c]⟩)
 | .dict ds=>some (ds.map (·.1))
 | _=>none
def fIt (fa:List Sl → Option (D × List Sl)):List Sl → Option (List D × List Sl):=fun δ=>(fa δ).bind fun p=>(Yw p.1).map fun ds=>(ds,p.2)
theorem Vw.listE {K:PySem.W.Frag} {Y:Fx} {F H:Hp} {δ:List Sl} {σ:L2.St} {A:Nat → List Addr} {R:List Nat} {v:V} {ds:List D} (S:SR K Y F H δ σ A) (h:Vw K F H A R v (.list ds)):∃ p xs,v = .ref p ∧ Z.ex R A F H p = some (.lst xs) ∧ Rps K F xs ds:=by
 rcases h with h | ⟨i,hi,p,e,eA,o⟩
 ·cases h with
  | lst h1 r=>exact ⟨_,_,rfl,Q31 S _ _ h1,r⟩
 ·obtain ⟨xs,h1,r⟩:=o
  exact ⟨p,xs,e,(if_pos ⟨i,hi,by rw [eA]; simp⟩:Z.ex R A F H p = H p).trans h1,r⟩
theorem Qbz {K:PySem.W.Frag} {G E:Hp} {a:Addr} {xs:List V} {ds:List D} (h:E a = some (.lst xs)) (r:Rps K G xs ds):Wk K G E (Itl K a) ds:=by
 refine ⟨fun i H hi s=>?_,fun i H x H' d s y e=>?_,fun H s=>?_⟩
 ·have:i < xs.length:=by rw [r.length]; exact hi
  exact ⟨xs,xs[i],SqL.of (s _ _ h),Ql this⟩
 ·obtain ⟨rfl,f⟩:=y
  obtain ⟨v,v1,v2⟩:=r.get e
  have:=f xs (SqL.of (s _ _ h))
  rw [v1] at this
  cases this
  exact .inl ⟨rfl,v2⟩
 ·exact ⟨xs,SqL.of (s _ _ h),by rw [r.length]; exact J1 _⟩
theorem Qdd {K:PySem.W.Frag} {G E:Hp} {a:Addr} {xs:List V} {ds:List D} (h:SqT K E a xs) (r:Rps K G xs ds):Wk K G E (Itt K a) ds:=by
 refine ⟨fun i H hi s=>?_,fun i H x H' d s y e=>?_,fun H s=>?_⟩
 ·have:i < xs.length:=by rw [r.length]; exact hi
  exact ⟨xs,xs[i],Same.sqt s h,Ql this⟩
 ·obtain ⟨rfl,f⟩:=y
  obtain ⟨v,v1,v2⟩:=r.get e
  have:=f xs (Same.sqt s h)
  rw [v1] at this
  cases this
  exact .inl ⟨rfl,v2⟩
 ·exact ⟨xs,Same.sqt s h,by rw [r.length]; exact J1 _⟩
theorem Qdu {K:PySem.W.Frag} {G E:Hp} {z:Str}:Wk K G E (Its z) (z.cps.toList.map fun c=>.str ⟨#[c]⟩):=by
 refine ⟨fun i H hi s=>?_,fun i H x H' d s y e=>?_,fun H s=>?_⟩
 ·simpa [Its] using hi
 ·obtain ⟨rfl,c,h1,rfl⟩:=y
  rw [Qo,Array.getElem?_toList,h1] at e
  cases e
  exact .inl ⟨rfl,.str _⟩
 ·show z.cps.size ≤ _
  simp
theorem RpK.key {K:PySem.W.Frag} {G:Hp}:∀ {kvs:List (Key × V)} {ds:List (D × D)} {i:Nat} {d:D},RpK K G kvs ds → (ds.map (·.1))[i]? = some d → ∃ k v,kvs[i]? = some (k,v) ∧ d = Q4e k
 | _,_,_,_,.nil,e=>by simp at e
 | _,_,0,_,.cons h r,e=>by simp at e; subst e; exact ⟨_,_,rfl,rfl⟩
 | _,_,i + 1,d,.cons h r,e=>by
  obtain ⟨k,v,h1,h2⟩:=RpK.key (i:=i) (d:=d) r (by simpa using e)
  exact ⟨k,v,by simpa using h1,h2⟩
theorem QbI {K:PySem.W.Frag} {G:Hp}:∀ (k:Key),Rp K G (kV k) (Q4e k)
 | .inl i=>.int i
 | .inr x=>.str x
theorem RpK.len {K:PySem.W.Frag} {G:Hp}:∀ {kvs:List (Key × V)} {ds:List (D × D)},RpK K G kvs ds → kvs.length = ds.length
 | _,_,.nil=>rfl
 | _,_,.cons _ r=>congrArg (· + 1) r.len
theorem QbP {K:PySem.W.Frag} {G E:Hp} {a:Addr} {o:Obj} {kvs:List (Key × V)} {ds:List (D × D)} (h:E a = some (.frz o (.dK kvs))) (r:RpK K G kvs ds):Wk K G E (Itk a o kvs) (ds.map (·.1)):=by
 have hl:=r.len
 refine ⟨fun i H hi s=>?_,fun i H x H' d s y e=>?_,fun H s=>?_⟩
 ·exact ⟨s _ _ h,by rw [hl]; simpa using hi⟩
 ·obtain ⟨rfl,k,v,h1,rfl⟩:=y
  obtain ⟨k',v',h2,rfl⟩:=r.key e
  rw [h1] at h2
  cases h2
  exact .inl ⟨rfl,QbI _⟩
 ·exact ⟨s _ _ h,by rw [hl]; simp⟩
theorem Vj {tg iter:Expr} {fa} {R M:List Nat} (h:EV X iter fa R M):IV X tg iter (fIt fa) R M:=by
 obtain ⟨t,p,q⟩:=h
 refine ⟨_,PI.or (pi_list p) (PI.or (pi_tup p) (PI.or (pi_str p) (pi_keys p))),fun Y F H δ σ A S ds δ' e Q k=>?_⟩
 unfold fIt at e
 cases e1:fa δ with
 | none=>rw [e1] at e; cases e
 | some w =>
  obtain ⟨d,δ1⟩:=w
  rw [e1] at e
  simp only [Q1] at e
  unfold Yw at e
  split at e
  ·cases e
   refine .inl (q Y F H δ σ A S _ _ e1 _ fun v F1 H1 st S1 r=>?_)
   obtain ⟨a,xs,rfl,h1,h2⟩:=r.listE S1
   exact ⟨a,rfl,⟨xs,SqL.of (Q0o S1 _ _ h1)⟩,k _ F1 H1 st S1 (Qbz h1 h2)⟩
  ·cases e
   refine .inr (.inl (q Y F H δ σ A S _ _ e1 _ fun v F1 H1 st S1 r=>?_))
   obtain ⟨a,xs,rfl,h0,h1,h2⟩:=r.tup S1
   exact ⟨a,rfl,⟨xs,h1⟩,k _ F1 H1 st S1 (Qdd (Same.sqt (Q31 S1) h0) h2)⟩
  ·cases e
   refine .inr (.inr (.inl (q Y F H δ σ A S _ _ e1 _ fun v F1 H1 st S1 r=>?_)))
   exact ⟨_,r.str,k _ F1 H1 st S1 Qdu⟩
  ·cases e
   refine .inr (.inr (.inr (q Y F H δ σ A S _ _ e1 _ fun v F1 H1 st S1 r=>?_)))
   have r':=r.ex S1
   cases r' with
   | dic h1 r2 =>
    obtain ⟨p',o',kvs',e3,h3,r3⟩:=r.dict S1
    cases e3
    rw [Q0o S1 _ _ h1] at h3
    cases h3
    exact ⟨_,_,rfl,.inl ⟨_,Q0o S1 _ _ h1,k _ F1 H1 st S1 (QbP h1 r3)⟩⟩
  ·cases e
def Q1t (lo:Int) (n:Nat):List D:=(List.range n).map fun i=>.int (lo + (i:Nat))
theorem Q3a {lo:Int} {n:Nat}:(Q1t lo n).length = n:=by simp [Q1t]
theorem QdA {K:PySem.W.Frag} {G E:Hp} {lo:Int} {n:Nat}:Wk K G E (Itr lo n) (Q1t lo n):=by
 refine ⟨fun i H hi s=>?_,fun i H x H' d s y e=>?_,fun H s=>?_⟩
 ·rw [Q3a] at hi
  exact hi
 ·obtain ⟨rfl,rfl⟩:=y
  unfold Q1t at e
  rw [Qo] at e
  cases e1:(List.range n)[i]? with
  | none=>rw [e1] at e; cases e
  | some j =>
   rw [e1] at e
   have:j = i:=by
    have:=Qi.mp e1
    obtain ⟨_,h⟩:=this
    simpa using h.symm
   subst this
   cases e
   exact .inl ⟨rfl,.int _⟩
 ·rw [Q3a]
  exact J1 _
def W2 (i:Int):Bool:=decide (-(2 ^ 62) ≤ i) && decide (i < 2 ^ 62)
def Q1Y (f:List Sl → Option (List D × List Sl)):List Sl → Option (List D × List Sl):=fun δ=>(f δ).bind fun p=>match p.1 with
 | [.int j]=>if W2 j then some (Q1t 0 j.toNat,p.2) else none
 | [.int i,.int j]=>if W2 i && W2 j then some (Q1t i (j - i).toNat,p.2) else none
 | _=>none
theorem Z7 {tg a:Expr} {f} {R M:List Nat} {p pos:Pos} (hg:Gl X "range") (hm:X.mg "range" = none) (h:AV X [a] f R M) (hs:starEach [a] X.env = [(false,eval a X.env)]:=by rfl) (h1:∀ δ ds δ',f δ = some (ds,δ') → ds.length = 1):IV X tg (.Call (.Name "range" p) [a] [] pos) (Q1Y f) [] M:=by
 obtain ⟨t,pa,q⟩:=h
 refine ⟨_,pi_range1 hg hm pa hs,fun Y F H δ σ A S ds δ' e Q k=>?_⟩
 unfold Q1Y at e
 cases e1:f δ with
 | none=>rw [e1] at e; cases e
 | some w =>
  obtain ⟨es,δ1⟩:=w
  have hl:=h1 _ _ _ e1
  rw [e1] at e
  simp only [Q1] at e
  split at e
  ·split at e
   ·rename_i c
    cases e
    simp only [W2,Q6,decide_eq_true_eq] at c
    refine q Y F H δ σ A S _ _ e1 _ fun vs F1 H1 st S1 r=>?_
    obtain ⟨v,rfl,rv⟩:=r.one
    exact ⟨_,by rw [rv.int],c.1,c.2,k _ F1 H1 st S1 QdA⟩
   ·cases e
  ·simp at hl
  ·cases e
def Q2G (ds:List D):List D:=ds.zipIdx.map fun p=>.tuple [.int (p.2:Nat),p.1]
def Q3o (fa:List Sl → Option (D × List Sl)):List Sl → Option (List D × List Sl):=fun δ=>(fa δ).bind fun p=>match p.1 with
 | .list ds=>some (Q2G ds,p.2)
 | _=>none
theorem Qbq {K:PySem.W.Frag} {G E:Hp} {a:Addr} {xs:List V} {ds:List D} (h:E a = some (.lst xs)) (r:Rps K G xs ds):Wk K G E (Ite K a) (Q2G ds):=by
 have hl:(Q2G ds).length = ds.length:=by simp [Q2G]
 refine ⟨fun i H hi s=>?_,fun i H x H' d s y e=>?_,fun H s=>?_⟩
 ·have:i < xs.length:=by rw [r.length,← hl]; exact hi
  exact ⟨xs,xs[i],SqL.of (s _ _ h),Ql this⟩
 ·obtain ⟨T,x',rfl,nT,rfl,f⟩:=y
  unfold Q2G at e
  rw [Qo,List.getElem?_zipIdx] at e
  cases e1:ds[i]? with
  | none=>rw [e1] at e; cases e
  | some d1 =>
   rw [e1] at e
   simp only [Qb,Nat.zero_add,J4.injEq] at e
   subst e
   obtain ⟨v,v1,v2⟩:=r.get e1
   have:=f xs (SqL.of (s _ _ h))
   rw [v1] at this
   cases this
   exact .inr ⟨T,_,_,nT,rfl,rfl,rfl,.cons (.int _) (.cons v2 .nil)⟩
 ·exact ⟨xs,SqL.of (s _ _ h),by rw [r.length,hl]; exact J1 _⟩
theorem Q8i {e:Expr} {fa} {R M:List Nat} {p pos tpos:Pos} {elts:List Expr} {kk:Nat} (hg:Gl X "enumerate") (hm:X.mg "enumerate" = none) (h:EV X e fa R M) (hs:starEach [e] X.env = [(false,eval e X.env)]:=by rfl):IV X (.Tuple elts kk tpos) (.Call (.Name "enumerate" p) [e] [] pos) (Q3o fa) R M:=by
 obtain ⟨t,pe,q⟩:=h
 refine ⟨_,pi_enum hg hm (pa_cons pe pa_nil hs) hs,fun Y F H δ σ A S ds δ' e Q k=>?_⟩
 unfold Q3o at e
 cases e1:fa δ with
 | none=>rw [e1] at e; cases e
 | some w =>
  obtain ⟨d,δ1⟩:=w
  rw [e1] at e
  simp only [Q1] at e
  split at e
  ·cases e
   refine q Y F H δ σ A S _ _ e1 _ fun v F1 H1 st S1 r=>?_
   obtain ⟨a,xs,rfl,h1,h2⟩:=r.listE S1
   exact ⟨a,xs,rfl,SqL.of (Q0o S1 _ _ h1),k _ F1 H1 st S1 (Qbq h1 h2)⟩
  ·cases e
def Q2l (T:Tt) (b:List Sl → Option Out):List D → List Sl → Option Out
 | [],δ=>some (.nx δ)
 | d :: r,δ=>(Y7 T d δ).bind fun δ1=>(b δ1).bind fun o=>match o with
  | .nx δ2=>Q2l T b r δ2
  | .ct δ2=>Q2l T b r δ2
  | .rt d' δ2=>some (.rt d' δ2)
def Zs (T:Tt) (f:List Sl → Option (List D × List Sl)) (b:List Sl → Option Out):List Sl → Option Out:=fun δ=>(f δ).bind fun p=>Q2l T b p.1 p.2
theorem Q08 {fr:Fr} {tg iter:Expr} {body:List Stmt} {pos:Pos} {T:Tt} {f} {M:List Nat} {b} (hp:PassesOwn (model X.prog X.w) X.A X.env X.xe) (hc:X.calm = true) (hi:IV X tg iter f [] M) (hg:GV X tg T) (hT:∀ j ∈ tS T,io j = false:=by decide) (hb:BV X io fr body b) (hs:∀ x,foldedSetIterable iter X.env x = pure x:=by intro _; rfl):SV X io fr (.For tg iter body [] pos) (Zs T f b):=by
 obtain ⟨wi,pw,qi⟩:=hi
 obtain ⟨g,pg,qg⟩:=hg
 obtain ⟨tb,pb,qb⟩:=hb
 refine ⟨_,ps_for hp hc pw pg pb hs,fun Y F H δ σ A hY S o e D k=>?_⟩
 unfold Zs at e
 cases e1:f δ with
 | none=>rw [e1] at e; cases e
 | some w =>
  obtain ⟨ds,δ1⟩:=w
  rw [e1] at e
  simp only [Q1] at e
  refine qi Y F H δ σ A S ds δ1 e1 _ fun J F1 H1 st S1 wk=>?_
  rw [QaA] at wk
  refine ⟨fun i m σ' H'=>m = ds.length - i ∧ i ≤ ds.length ∧ ∃ F' A' δ',Same F1 F' ∧ SR X.K Y F' H' δ' σ' A' ∧ Q2l T b (ds.drop i) δ' = some o,⟨ds.length,by simp,Ja _,F1,A,δ1,Same.refl _,S1,by rw [List.drop_zero]; exact e⟩,?_⟩
  rintro i m σ' H' ⟨rfl,hi,F',A',δ',sF,S',ef⟩
  by_cases hlt:i < ds.length
  ·have hd:ds.drop i = ds[i] :: ds.drop (i + 1):=List.drop_eq_getElem_cons hlt
   rw [hd] at ef
   unfold Q2l at ef
   cases e2:Y7 T ds[i] δ' with
   | none=>rw [e2] at ef; cases ef
   | some δ2 =>
    rw [e2] at ef
    simp only [Q1] at ef
    cases e3:b δ2 with
    | none=>rw [e3] at ef; cases ef
    | some o1 =>
     rw [e3] at ef
     simp only [Q1] at ef
     refine .inr ⟨wk.go i H' hlt (sF.trans S'.sub),fun σ2 H2=>∃ F2 A2 δ3,Same F' F2 ∧ SR X.K Y F2 H2 δ3 σ2 A2 ∧ Q2l T b (ds.drop (i + 1)) δ3 = some o,fun σ2 H2 ⟨F2,A2,δ3,s2,S2,e4⟩=>⟨ds.length - (i + 1),by omega,rfl,by omega,F2,A2,δ3,sF.trans s2,S2,e4⟩,fun x H2 y=>?_⟩
     have main:∀ (F2:Hp),Same F' F2 → SR X.K Y F2 H2 δ' σ' A' → Rp X.K F2 x ds[i] → g x σ' H2 fun σ2 H2=>tb { D with nx:=fun σ2 H2=>∃ F2 A2 δ3,Same F' F2 ∧ SR X.K Y F2 H2 δ3 σ2 A2 ∧ Q2l T b (ds.drop (i + 1)) δ3 = some o,ct:=fun σ2 H2=>∃ F2 A2 δ3,Same F' F2 ∧ SR X.K Y F2 H2 δ3 σ2 A2 ∧ Q2l T b (ds.drop (i + 1)) δ3 = some o,bk:=D.nx } σ2 H2:=by
      intro F2 s2 S2 r2
      refine qg Y F2 H2 δ' σ' A' (fun j hj=>by rw [hY]; exact hT j hj) S2 x _ δ2 r2 e2 _ fun σ3 A3 _ S3=>?_
      refine qb Y F2 H2 δ2 σ3 A3 hY S3 o1 e3 _ ?_
      cases o1 with
      | nx δ3=>exact fun σ4 F4 H4 A4 s4 S4=>⟨F4,A4,δ3,s2.trans s4,S4,ef⟩
      | ct δ3=>exact fun σ4 F4 H4 A4 s4 S4=>⟨F4,A4,δ3,s2.trans s4,S4,ef⟩
      | rt d' δ3 =>
       cases ef
       exact fun v σ4 F4 H4 A4 s4 S4 r=>k v σ4 F4 H4 A4 (st.f.trans (sF.trans (s2.trans s4))) S4 r
     rcases wk.yld i H' x H2 _ (sF.trans S'.sub) y (Ql hlt) with ⟨rfl,r⟩ | ⟨U,xs,es,nU,rfl,rfl,e5,r⟩
     ·exact main F' (Same.refl _) S' (r.mono sF)
     ·have l:=Stp.laid (M:=[]) (o:=.tup xs) S' nU
      refine main _ l.f (S'.laid nU) ?_
      rw [e5]
      exact .tup (.inl (.inl upd_same)) (r.mono (sF.trans l.f))
  ·have hi2:i = ds.length:=by omega
   subst hi2
   rw [List.drop_length] at ef
   unfold Q2l at ef
   cases ef
   exact .inl ⟨wk.stop H' (sF.trans S'.sub),k σ' F' H' A' (st.f.trans sF) S'⟩
def Q0a (c:List Sl → Option (Bool × List Sl)) (b:List Sl → Option Out):Nat → List Sl → Option Out
 | 0,_=>none
 | n + 1,δ=>(c δ).bind fun p=>match p.1 with
  | false=>some (.nx p.2)
  | true=>(b p.2).bind fun o=>match o with
   | .nx δ2=>Q0a c b n δ2
   | .ct δ2=>Q0a c b n δ2
   | .rt d' δ2=>some (.rt d' δ2)
theorem Qax {fr:Fr} {c:Expr} {body:List Stmt} {pos:Pos} {gc} {M:List Nat} {b} {n:Nat} (hp:PassesOwn (model X.prog X.w) X.A X.env X.xe) (hc:TV X c gc M) (hb:BV X io fr body b):SV X io fr (.While c body [] pos) (Q0a gc b n):=by
 obtain ⟨tc,pc,qc⟩:=hc
 obtain ⟨tb,pb,qb⟩:=hb
 refine ⟨_,ps_while hp pc pb,fun Y F H δ σ A hY S o e D k=>?_⟩
 refine ⟨fun m σ' H'=>∃ F' A' δ',Same F F' ∧ SR X.K Y F' H' δ' σ' A' ∧ Q0a gc b m δ' = some o,⟨n,F,A,δ,Same.refl _,S,e⟩,?_⟩
 rintro m σ' H' ⟨F',A',δ',sF,S',ef⟩
 cases m with
 | zero=>cases ef
 | succ m =>
  unfold Q0a at ef
  cases e1:gc δ' with
  | none=>rw [e1] at ef; cases ef
  | some w =>
   obtain ⟨b1,δ1⟩:=w
   rw [e1] at ef
   refine qc Y F' H' δ' σ' A' S' b1 δ1 e1 _ fun F1 H1 st S1=>?_
   cases b1 with
   | false =>
    cases ef
    exact iteF (k σ' F1 H1 A' (sF.trans st.f) S1)
   | true =>
    refine iteT ?_
    simp only [Q1] at ef
    cases e3:b δ1 with
    | none=>rw [e3] at ef; cases ef
    | some o1 =>
     rw [e3] at ef
     simp only [Q1] at ef
     refine ⟨fun σ2 H2=>∃ F2 A2 δ3,Same F F2 ∧ SR X.K Y F2 H2 δ3 σ2 A2 ∧ Q0a gc b m δ3 = some o,fun σ2 H2 h=>⟨m,by omega,h⟩,?_⟩
     refine qb Y F1 H1 δ1 σ' A' hY S1 o1 e3 _ ?_
     cases o1 with
     | nx δ3=>exact fun σ4 F4 H4 A4 s4 S4=>⟨F4,A4,δ3,(sF.trans st.f).trans s4,S4,ef⟩
     | ct δ3=>exact fun σ4 F4 H4 A4 s4 S4=>⟨F4,A4,δ3,(sF.trans st.f).trans s4,S4,ef⟩
     | rt d' δ3 =>
      cases ef
      exact fun v σ4 F4 H4 A4 s4 S4 r=>k v σ4 F4 H4 A4 ((sF.trans st.f).trans s4) S4 r
end
end Z
namespace Z
open PySem PySem.Spec PyProof.Rows L2
def tEV (K:PySem.W.Frag) (f:List Sl → Option (D × List Sl)) (R M:List Nat):TE:=fun σ H Q =>
 ∃ (Y:Fx) (F:Hp) (δ:List Sl) (A:Nat → List Addr) (d:D) (δ':List Sl),SR K Y F H δ σ A ∧ f δ = some (d,δ') ∧ ∀ v F' H',Stp A M F H F' H' → SR K Y F' H' δ' σ A → Vw K F' H' A R v d → Q v H'
def tTV (K:PySem.W.Frag) (f:List Sl → Option (Bool × List Sl)) (M:List Nat):TT:=fun σ H Q =>
 ∃ (Y:Fx) (F:Hp) (δ:List Sl) (A:Nat → List Addr) (b:Bool) (δ':List Sl),SR K Y F H δ σ A ∧ f δ = some (b,δ') ∧ ∀ F' H',Stp A M F H F' H' → SR K Y F' H' δ' σ A → Q b H'
def tGV (K:PySem.W.Frag) (T:Tt):TG:=fun x σ H Q =>
 ∃ (Y:Fx) (F:Hp) (δ:List Sl) (A:Nat → List Addr) (d:D) (δ':List Sl),(∀ j ∈ tS T,Y.io j = false) ∧ SR K Y F H δ σ A ∧ Rp K F x d ∧ Y7 T d δ = some δ' ∧ ∀ σ' A',But (tS T) σ σ' A A' → SR K Y F H δ' σ' A' → Q σ' H
theorem EV.pe {X:Cx} {e:Expr} {f R M} (h:EV X e f R M):PE X e (tEV X.K f R M):=by
 obtain ⟨t,p,q⟩:=h
 refine ⟨fun pins s σ H Q I z=>?_⟩
 obtain ⟨Y,F,δ,A,d,δ',S,e1,k⟩:=z
 exact p.run pins s σ H Q I (q Y F H δ σ A S d δ' e1 Q k)
theorem TV.pt {X:Cx} {e:Expr} {f M} (h:TV X e f M):PT X e (tTV X.K f M):=by
 obtain ⟨t,p,q⟩:=h
 refine ⟨fun pins s σ H Q I z=>?_⟩
 obtain ⟨Y,F,δ,A,d,δ',S,e1,k⟩:=z
 exact p.run pins s σ H Q I (q Y F H δ σ A S d δ' e1 Q k)
theorem GV.pg {X:Cx} {e:Expr} {T:Tt} (h:GV X e T):PG X e (tGV X.K T):=by
 obtain ⟨g,p,q⟩:=h
 refine ⟨fun pins s σ H v u Q I r z=>?_⟩
 obtain ⟨Y,F,δ,A,d,δ',hY,S,r1,e1,k⟩:=z
 exact p.run pins s σ H v u Q I r (q Y F H δ σ A hY S v d δ' r1 e1 Q k)
theorem Q5t {σ:L2.St} {j:Nat}:∀ {vs:List Nat},j ∈ vs → j < σ.length → (wipe σ vs)[j]? = some none
 | v :: vs,h,hj=>by
  unfold wipe
  by_cases c:v = j
  ·subst c
   exact Qh (by rw [wipe_length]; exact hj)
  ·rw [Qc c]
   exact Q5t ((Q7.mp h).resolve_left fun z=>c z.symm) hj
theorem Vr {σ:L2.St} {j:Nat}:∀ {vs:List Nat},j ∉ vs → (wipe σ vs)[j]? = σ[j]?
 | [],_=>rfl
 | v :: vs,h=>by
  simp only [Q7,not_or] at h
  unfold wipe
  rw [Qc (Ne.symm h.1)]
  exact Vr h.2
theorem Q81 {σ σ':L2.St} {vs:List Nat} (hl:σ'.length = σ.length) (h:∀ j,j ∉ vs → σ'[j]? = σ[j]?):wipe σ' vs = wipe σ vs:=by
 apply List.ext_getElem?
 intro j
 by_cases c:j ∈ vs
 ·by_cases cl:j < σ.length
  ·rw [Q5t c cl,Q5t c (by omega)]
  ·rw [Qy (by rw [wipe_length]; omega),Qy (by rw [wipe_length]; omega)]
 ·rw [Vr c,Vr c,h j c]
theorem Wi {δ:List Sl}:∀ {vs:List Nat},(Ya vs δ).length = δ.length
 | []=>rfl
 | v :: vs=>by
  show ((Ya vs δ).set v .no).length = _
  rw [Qk,Wi]
theorem Q0g {δ:List Sl} {j:Nat}:∀ {vs:List Nat},j ∈ vs → j < δ.length → (Ya vs δ)[j]? = some .no
 | v :: vs,h,hj=>by
  show ((Ya vs δ).set v .no)[j]? = _
  by_cases c:v = j
  ·subst c
   exact Qh (by rw [Wi]; exact hj)
  ·rw [Qc c]
   exact Q0g ((Q7.mp h).resolve_left fun z=>c z.symm) hj
theorem Z4 {δ:List Sl} {j:Nat}:∀ {vs:List Nat},j ∉ vs → (Ya vs δ)[j]? = δ[j]?
 | [],_=>rfl
 | v :: vs,h=>by
  simp only [Q7,not_or] at h
  show ((Ya vs δ).set v .no)[j]? = _
  rw [Qc (Ne.symm h.1)]
  exact Z4 h.2
def noS (vs:List Nat) (δ:List Sl):Bool:=vs.all fun j=>match δ[j]? with
 | some .no=>true
 | _=>false
section
variable {K:PySem.W.Frag} {Y:Fx} {F H:Hp} {δ:List Sl} {σ σ':L2.St} {A:Nat → List Addr} {vs:List Nat}
theorem Q21 (h:noS vs δ = true) {j:Nat} (hj:j ∈ vs):δ[j]? = some .no:=by
 have:=Qq.mp h j hj
 split at this
 ·assumption
 ·cases this
theorem Q8k {σ1 σ2:L2.St} {fs:List (Str × Nat)} (h:∀ q ∈ fs,σ1[q.2]? = σ2[q.2]?):Q7l σ1 fs = Q7l σ2 fs:=by
 unfold Q7l
 induction fs with
 | nil=>rfl
 | cons q r ih =>
  rw [List.filterMap_cons,List.filterMap_cons,h q Q5,ih fun x hx=>h x (Q4 _ hx)]
theorem SR.wiped (S:SR K Y F H δ σ' A) (hw:wipe σ' vs = wipe σ vs) (hA:∀ j ∈ vs,A j = []) (hio:∀ j ∈ vs,Y.io j = false) (hl:∀ j ∈ vs,j < δ.length):SR K Y F H (Ya vs δ) (wipe σ vs) A:=by
 have hlen:(wipe σ vs).length = σ'.length:=by rw [← hw,wipe_length]
 have out:∀ j,j ∉ vs → (wipe σ vs)[j]? = σ'[j]?:=fun j hj=>by rw [← hw,Vr hj]
 refine ⟨by rw [Wi,hlen]; exact S.len,fun j t e=>?_,fun j e=>?_,S.dis,S.hid,S.new,S.sub,fun j h1=>?_,S.ioA,S.kp,S.nw,S.f0,S.lio,fun j c fs e=>?_,fun j hj=>?_⟩
 ·by_cases c:j ∈ vs
  ·rw [Q0g c (hl j c)] at e
   cases e
   exact hA j c
  ·rw [Z4 c] at e
   rw [out j c]
   exact S.slot j t e
 ·by_cases c:j ∈ vs
  ·exact hA j c
  ·rw [Z4 c] at e
   exact S.out j e
 ·have c:j ∉ vs:=fun c=>by rw [S.nlt (hio j c)] at h1; cases h1
  rw [out j c]
  exact S.fix j h1
 ·by_cases c2:j ∈ vs
  ·rw [Q0g c2 (hl j c2)] at e
   cases e
  ·rw [Z4 c2] at e
   rw [out j c2]
   obtain ⟨h1,h2⟩:=S.ob j c fs e
   refine ⟨h1,fun p C dx fvs e1 e2=>?_⟩
   rw [h2 p C dx fvs e1 e2]
   exact Q8k fun q hq=>(out q.2 fun z=>by have:=h1 q hq; rw [S.nvt (hio q.2 z)] at this; cases this).symm
 ·rw [Z4 fun z=>by rw [hio j z] at hj; cases hj]
  exact S.vno j hj
theorem SR.noA (S:SR K Y F H δ σ A) (h:noS vs δ = true):∀ j ∈ vs,A j = []:=fun j hj=>S.slot j _ (Q21 h hj)
theorem Q9I (h:noS vs δ = true):Ya vs δ = δ:=by
 apply List.ext_getElem?
 intro j
 by_cases c:j ∈ vs
 ·rw [Q21 h c,Q0g c (Qi.mp (Q21 h c)).1]
 ·rw [Z4 c]
end
def Wn (T:Tt) (vs:List Nat) (c:List Sl → Option (Bool × List Sl)) (f:List Sl → Option (D × List Sl)):List D → List Sl → Option (List D × List Sl)
 | [],δ=>some ([],δ)
 | d :: r,δ=>(Y7 T d δ).bind fun δ1=>(c δ1).bind fun p=>match p.1 with
  | true=>(f p.2).bind fun q=>(Wn T vs c f r (Ya vs q.2)).map fun z=>(q.1 :: z.1,z.2)
  | false=>Wn T vs c f r (Ya vs p.2)
def fLc (T:Tt) (vs:List Nat) (it:List Sl → Option (List D × List Sl)) (c:List Sl → Option (Bool × List Sl)) (f:List Sl → Option (D × List Sl)):List Sl → Option (D × List Sl):=fun δ=>(it δ).bind fun p =>
 if noS vs p.2 && decide (p.1.length ≤ sizeLine) then (Wn T vs c f p.1 p.2).map fun q=>(.list q.1,q.2) else none
def Q0h:List Sl → Option (Bool × List Sl):=fun δ=>some (true,δ)
def TsV (X:Cx) (es:List Expr) (f:List Sl → Option (Bool × List Sl)) (M:List Nat):Prop :=
 ∃ t,PTs X es t ∧ ∀ (Y:Fx) (F H:Hp) (δ:List Sl) (σ:L2.St) (A:Nat → List Addr),SR X.K Y F H δ σ A → ∀ (b:Bool) (δ':List Sl),f δ = some (b,δ') → ∀ Q:Bool → Hp → Prop,
  (∀ F' H',Stp A M F H F' H' → SR X.K Y F' H' δ' σ A → Q b H') → t σ H Q
theorem Vo {X:Cx}:TsV X [] Q0h []:=by
 refine ⟨_,pts_nil,fun Y F H δ σ A S b δ' e Q k=>?_⟩
 cases e
 exact k F H Stp.refl S
theorem Q8E {X:Cx} {e:Expr} {f M} (h:TV X e f M):TsV X [e] f M:=by
 obtain ⟨t,p,q⟩:=h
 exact ⟨t,pts_one p,q⟩
theorem TsV.pts {X:Cx} {es:List Expr} {f M} (h:TsV X es f M):PTs X es (tTV X.K f M):=by
 obtain ⟨t,p,q⟩:=h
 refine ⟨fun pins s σ H Q I z=>?_⟩
 obtain ⟨Y,F,δ,A,d,δ',S,e1,k⟩:=z
 exact p.run pins s σ H Q I (q Y F H δ σ A S d δ' e1 Q k)
abbrev Bk (X:Cx) (scope:Scope) (s:Shared) (H:Hp) (C:Addr) (cl:List (Str × Addr)) (fp:List Addr):Cx:=X.blk s H scope (compEnvC scope cl C X.env) fp
theorem Q87 {X:Cx} {T:Tt} {vs:List Nat} {f c fe} {R M Mt Me:List Nat} {wi:TI}
  (hi:∀ (Y:Fx) (F H:Hp) (δ:List Sl) (σ:L2.St) (A:Nat → List Addr),SR X.K Y F H δ σ A → ∀ (ds:List D) (δ':List Sl),f δ = some (ds,δ') → ∀ Q:It → Hp → Prop,
   (∀ J F' H',Stp A M F H F' H' → SR X.K Y F' H' δ' σ A → Wk X.K F' (ex R A F' H') J ds → Q J H') → wi σ H Q)
  (hT:∀ j ∈ tS T,j ∈ vs) (dj:∀ i ∈ R,i ∉ Mt ++ Me:=by decide) (Y:Fx) (F H:Hp) (δ:List Sl) (σ:L2.St) (A:Nat → List Addr) (S:SR X.K Y F H δ σ A) (z:D) (δ':List Sl) (e:fLc T vs f c fe δ = some (z,δ')) (Q:VK)
  (k:∀ p F' H',Stp A (M ++ (Mt ++ Me)) F H F' H' → SR X.K Y F' H' δ' σ A → H p = none → F' p = none → Wz X.K F' H' p z → Q (.ref p) H') :
  tLc wi (tGV X.K T) (tTV X.K c Mt) (tEV X.K fe [] Me) vs σ H Q:=by
 unfold fLc at e
 cases e1:f δ with
 | none=>rw [e1] at e; cases e
 | some w =>
  obtain ⟨ds,δ1⟩:=w
  rw [e1] at e
  simp only [Q1] at e
  split at e
  ·rename_i cn
   rw [Q6,decide_eq_true_eq] at cn
   obtain ⟨cn,csz⟩:=cn
   cases e2:Wn T vs c fe ds δ1 with
   | none=>rw [e2] at e; cases e
   | some w =>
    obtain ⟨zs,δ2⟩:=w
    rw [e2] at e
    cases e
    refine hi Y F H δ σ A S ds δ1 e1 _ fun J F1 H1 st S1 wk=>?_
    intro p hp
    have hpF:F1 p = none:=S1.sub.free hp
    have hA:∀ j ∈ vs,A j = []:=S1.noA cn
    have hio:∀ j ∈ vs,Y.io j = false:=fun j hj=>by
     cases q:Y.io j with
     | false=>rfl
     | true=>exact absurd (Q21 cn hj) (S1.vno j q)
    have hl1:∀ j ∈ vs,j < δ1.length:=fun j hj=>(Qi.mp (Q21 cn hj)).1
    have Sw:SR X.K Y F1 H1 δ1 (wipe σ vs) A:=by
     have q:=S1.wiped (vs:=vs) (σ:=σ) rfl hA hio hl1
     rw [Q9I cn] at q
     exact q
    -- the invariant
    let Inv_:Nat → Hp → Prop:=fun i H'=>∃ F' δ' zs' acc,Stp A (Mt ++ Me) F1 H1 F' H' ∧ SR X.K Y F' H' δ' (wipe σ vs) A ∧ H' p = some (.lst acc) ∧ F' p = none ∧ Rps X.K F' acc zs' ∧ acc.length ≤ i ∧ δ'.length = δ1.length ∧ noS vs δ' = true ∧
     ∃ zr,Wn T vs c fe (ds.drop i) δ' = some (zr,δ2) ∧ zs = zs' ++ zr
    have start:Inv_ 0 (upd H1 p (.lst [])):=⟨F1,δ1,[],[],Stp.laidO hp,Sw.laidO hp,upd_same,hpF,.nil,J1 _,rfl,cn,zs,by rw [List.drop_zero]; exact e2,rfl⟩
    have seen:∀ {F' H' δ'},Stp A (Mt ++ Me) F1 H1 F' H' → SR X.K Y F' H' δ' (wipe σ vs) A → Same (ex R A F1 H1) H':=fun {F' H' δ'} st' S' a o ea=>by
     unfold ex at ea
     by_cases ca:∃ i ∈ R,a ∈ A i
     ·rw [if_pos ca] at ea
      obtain ⟨i,hi,ha⟩:=ca
      refine st'.kp a o ea fun j hj hz=>?_
      have:=S1.dis j i a hz ha
      subst this
      exact dj _ hi hj
     ·rw [if_neg ca] at ea
      exact S'.sub a o (st'.f a o ea)
    refine ⟨fun i m H'=>m = ds.length - i ∧ i ≤ ds.length ∧ Inv_ i H',⟨ds.length,by simp,Ja _,start⟩,?_⟩
    rintro i m H' ⟨rfl,hi,F',δ',zs',acc,st',S',hD,hDF,ra,hal,hl,hno,zr,ec,ezs⟩
    have nA:∀ j,p ∉ A j:=fun j hj=>S1.isSome hj hp
    by_cases hlt:i < ds.length
    ·have hd:ds.drop i = ds[i] :: ds.drop (i + 1):=List.drop_eq_getElem_cons hlt
     rw [hd] at ec
     unfold Wn at ec
     cases e3:Y7 T ds[i] δ' with
     | none=>rw [e3] at ec; cases ec
     | some δ3 =>
      rw [e3] at ec
      simp only [Q1] at ec
      cases e4:c δ3 with
      | none=>rw [e4] at ec; cases ec
      | some w =>
       obtain ⟨b,δ4⟩:=w
       rw [e4] at ec
       simp only [Q1] at ec
       refine .inr ⟨wk.go i H' hlt (seen st' S'),fun H2=>Inv_ (i + 1) H2,fun H2 h=>⟨ds.length - (i + 1),by omega,rfl,by omega,h⟩,fun x H2 y=>?_⟩
       have main:∀ F2,Stp A (Mt ++ Me) F1 H1 F2 H2 → Same F' F2 → SR X.K Y F2 H2 δ' (wipe σ vs) A → H2 p = some (.lst acc) → F2 p = none → Rp X.K F2 x ds[i] →
         tGV X.K T x (wipe σ vs) H2 fun σ2 H2=>wipe σ2 vs = wipe σ vs ∧ tTV X.K c Mt σ2 H2 fun b H3 =>
          if b = true then tEV X.K fe [] Me σ2 H3 fun y H4=>∃ acc,H4 p = some (.lst acc) ∧ acc.length < sizeLine ∧ Inv_ (i + 1) (upd H4 p (.lst (acc ++ [y]))) else Inv_ (i + 1) H3:=by
        intro F2 st2 s2 S2 hD2 hF2 r2
        refine ⟨Y,F2,δ',A,ds[i],δ3,fun j hj=>hio j (hT j hj),S2,r2,e3,fun σ3 A3 bt S3=>?_⟩
        have eA:A3 = A:=by
         funext j
         by_cases c:j ∈ tS T
         ·rw [bt.e j c,hA j (hT j c)]
         ·exact bt.a j c
        subst eA
        have hl3:σ3.length = (wipe σ vs).length:=by
         rw [← S3.len,← S2.len]
         exact Q2k e3
        have hw:wipe σ3 vs = wipe σ vs:=by
         have q:wipe σ3 vs = wipe (wipe σ vs) vs:=Q81 hl3 fun j hj=>bt.s j fun z=>hj (hT j z)
         rw [q]
         exact Q81 (wipe_length _ _) fun j hj=>Vr hj
        refine ⟨hw,Y,F2,δ3,A3,b,δ4,S3,e4,fun F3 H3 st3 S4=>?_⟩
        have st3':=(st2.trans S2 st3).mono (M':=Mt ++ Me) fun j hj=>by
         rcases Q9.mp hj with z | z
         ·exact z
         ·exact Qa _ z
        have hD3:H3 p = some (.lst acc):=st3.kp p _ hD2 fun j _ hz=>nA j hz
        have hF3:F3 p = none:=by
         cases q:F3 p with
         | none=>rfl
         | some o =>
          have:=st3.nw p hF2 (by rw [q]; simp)
          rw [hD2] at this
          cases this
        have hl4:δ4.length = δ1.length:=by
         rw [S4.len,hl3,← S2.len]
         exact hl
        have hls4:∀ j ∈ vs,j < δ4.length:=fun j hj=>by rw [hl4]; exact hl1 j hj
        cases b with
        | false =>
         refine iteF ⟨F3,Ya vs δ4,zs',acc,st3',S4.wiped hw hA hio hls4,hD3,hF3,ra.mono (s2.trans st3.f),by omega,by rw [Wi]; exact hl4,?_,zr,ec,ezs⟩
         exact Qq.mpr fun j hj=>by rw [Q0g hj (hls4 j hj)]
        | true =>
         refine iteT ?_
         simp only at ec
         cases e5:fe δ4 with
         | none=>rw [e5] at ec; cases ec
         | some w =>
          obtain ⟨d,δ5⟩:=w
          rw [e5] at ec
          simp only [Q1] at ec
          cases e6:Wn T vs c fe (ds.drop (i + 1)) (Ya vs δ5) with
          | none=>rw [e6] at ec; cases ec
          | some w =>
           obtain ⟨zr',δ6⟩:=w
           rw [e6] at ec
           simp only [Qb,J4.injEq,Prod.mk.injEq] at ec
           obtain ⟨rfl,rfl⟩:=ec
           refine ⟨Y,F3,δ4,A3,d,δ5,S4,e5,fun v F4 H4 st4 S5 r4=>?_⟩
           have st4':=(st3'.trans S4 st4).mono (M':=Mt ++ Me) fun j hj=>by
            rcases Q9.mp hj with z | z
            ·exact z
            ·exact Qf _ z
           have hD4:H4 p = some (.lst acc):=st4.kp p _ hD3 fun j _ hz=>nA j hz
           have hF4:F4 p = none:=by
            cases q:F4 p with
            | none=>rfl
            | some o =>
             have:=st4.nw p hF3 (by rw [q]; simp)
             rw [hD3] at this
             cases this
           have hl5:δ5.length = δ1.length:=by
            rw [S5.len,hl3,← S2.len]
            exact hl
           have hls5:∀ j ∈ vs,j < δ5.length:=fun j hj=>by rw [hl5]; exact hl1 j hj
           have Sf:SR X.K Y F4 (upd H4 p (.lst (acc ++ [v]))) δ5 σ3 A3:=S5.upd_free hF4 nA (by
            cases q:Y.H0 p with
            | none=>rfl
            | some o=>rw [S1.fresh0 hp] at q; cases q)
           refine ⟨acc,hD4,by omega,F4,Ya vs δ5,zs' ++ [d],acc ++ [v],?_,Sf.wiped hw hA hio hls5,upd_same,hF4,((ra.mono ((s2.trans st3.f).trans st4.f)).append (.cons r4.nil .nil)),by rw [Qs]; simp; omega,by rw [Wi]; exact hl5,?_,zr',e6,by rw [ezs,List.append_assoc]; rfl⟩
           ·exact ⟨st4'.f,st4'.nw,fun a o ea hn=>by rw [upd_ne (ne_of_none ea hp)]; exact st4'.kp a o ea hn⟩
           ·exact Qq.mpr fun j hj=>by rw [Q0g hj (hls5 j hj)]
       have sE:=seen st' S'
       rcases wk.yld i H' x H2 _ sE y (Ql hlt) with ⟨rfl,r⟩ | ⟨U,xs,es,nU,rfl,rfl,e5,r⟩
       ·exact main F' st' (Same.refl _) S' hD hDF (r.mono st'.f)
       ·have l:=Stp.laid (M:=[]) (o:=.tup xs) S' nU
        have npU:p ≠ U:=ne_of_none hD nU
        refine main _ (Y3 S' st' l) l.f (S'.laid nU) (by rw [upd_ne npU]; exact hD) (by rw [upd_ne npU]; exact hDF) ?_
        rw [e5]
        exact .tup (.inl (.inl upd_same)) (r.mono (st'.f.trans l.f))
    ·have hi2:i = ds.length:=by omega
     subst hi2
     rw [List.drop_length] at ec
     unfold Wn at ec
     simp only [J4.injEq,Prod.mk.injEq] at ec
     obtain ⟨rfl,rfl⟩:=ec
     rw [J7] at ezs
     subst ezs
     refine .inl ⟨wk.stop H' (seen st' S'),k p F' H' (st.trans S1 st') ?_ (Q4z st S1 hp) hDF ⟨acc,hD,ra⟩⟩
     -- the outer slots again
     refine ⟨by rw [S'.len,wipe_length],fun j t et=>?_,S'.out,S'.dis,S'.hid,S'.new,S'.sub,fun j h1=>?_,S'.ioA,S'.kp,S'.nw,S'.f0,S'.lio,fun j c0 fs0 eo=>?_,S'.vno⟩
     ·by_cases cj:j ∈ vs
      ·rw [Q21 hno cj] at et
       cases et
       exact hA j cj
      ·have:=S'.slot j t et
       rw [Vr cj] at this
       exact this
     ·have cj:j ∉ vs:=fun z=>by rw [S1.nlt (hio j z)] at h1; cases h1
      have:=S'.fix j h1
      rw [Vr cj] at this
      exact this
     ·have cj:j ∉ vs:=fun z=>by
       rw [Q21 hno z] at eo
       cases eo
      obtain ⟨h1,h2⟩:=S'.ob j c0 fs0 eo
      rw [Vr cj] at h2
      refine ⟨h1,fun p0 C0 dx0 fvs0 e10 e20=>?_⟩
      rw [h2 p0 C0 dx0 fvs0 e10 e20]
      exact Q8k fun q hq=>Vr fun z=>by have:=h1 q hq; rw [S.nvt (hio q.2 z)] at this; cases this
  ·cases e
section
variable {X:Cx} {T:Tt} {f c fe} {R M Mt Me:List Nat} {elt tg iter:Expr} {ifs:List Expr} {scope:Scope} {own:List (Str × Nat)} {pos:Pos}
theorem Q16 (hc:X.calm = true) (hN:X.N.Nodup) (hi:IV X tg iter f R M) (ok:BlkOk X.N X.env.scope scope own) (hg:∀ s H C cl fp,GV (Bk X scope s H C cl fp) tg T) (ht:∀ s H C cl fp,TsV (Bk X scope s H C cl fp) ifs c Mt) (he:∀ s H C cl fp,EV (Bk X scope s H C cl fp) elt fe [] Me)
  (hs:∀ x,foldedSetIterable iter X.env x = pure x:=by intro _; rfl) (hT:∀ j ∈ tS T,j ∈ own.map (·.2):=by decide) (dj:∀ i ∈ R,i ∉ Mt ++ Me:=by decide):NV X (.ListComp elt [⟨tg,iter,ifs,0⟩] scope pos) (fLc T (own.map (·.2)) f c fe) (M ++ (Mt ++ Me)):=by
 obtain ⟨wi,pw,qi⟩:=hi
 refine ⟨_,pe_lc (g:=tGV X.K T) (tt:=tTV X.K c Mt) (te:=tEV X.K fe [] Me) hc hN pw ok (fun s H C cl fp=>(hg s H C cl fp).pg) (fun s H C cl fp=>(ht s H C cl fp).pts) (fun s H C cl fp=>(he s H C cl fp).pe) hs,fun Y F H δ σ A S z δ' e Q k=>?_⟩
 exact Q87 qi hT dj Y F H δ σ A S z δ' e Q k
theorem Q89 {io:Iom} {fr:Fr} {i:Nat} {y:Str} {py spos:Pos} (hc:X.calm = true) (hN:X.N.Nodup) (hy:X.N[i]? = some y) (hyl:X.env.scope.names.lookup y = some .local) (hsw:swapsWith (.ListComp elt [⟨tg,iter,ifs,0⟩] scope pos) (some (.Name y py)) spos.line X.env = pure true)
  (hi:IV X tg iter f R M) (ok:BlkOk X.N X.env.scope scope own) (hg:∀ s H C cl fp,GV (Bk X scope s H C cl fp) tg T) (ht:∀ s H C cl fp,TsV (Bk X scope s H C cl fp) ifs c Mt) (he:∀ s H C cl fp,EV (Bk X scope s H C cl fp) elt fe [] Me)
  (hs:∀ x,foldedSetIterable iter X.env x = pure x:=by intro _; rfl) (hT:∀ j ∈ tS T,j ∈ own.map (·.2):=by decide) (dj:∀ i ∈ R,i ∉ Mt ++ Me:=by decide) (hio:io i = false):SV X io fr (.Assign [.Name y py] (.ListComp elt [⟨tg,iter,ifs,0⟩] scope pos) spos) (Zk i (fLc T (own.map (·.2)) f c fe)):=by
 obtain ⟨wi,pw,qi⟩:=hi
 refine ⟨_,ps_setLc (g:=tGV X.K T) (tt:=tTV X.K c Mt) (te:=tEV X.K fe [] Me) hc hN hy hyl hsw pw ok (fun s H C cl fp=>(hg s H C cl fp).pg) (fun s H C cl fp=>(ht s H C cl fp).pts) (fun s H C cl fp=>(he s H C cl fp).pe) hs,fun Y F H δ σ A hY S o e D k=>?_⟩
 unfold Zk at e
 cases e1:fLc T (own.map (·.2)) f c fe δ with
 | none=>rw [e1] at e; cases e
 | some w =>
  obtain ⟨d,δ1⟩:=w
  rw [e1] at e
  simp only [Q1] at e
  split at e
  ·rename_i hi
   cases e
   refine Q87 qi hT dj Y F H δ σ A S d δ1 e1 _ fun p F1 H1 st S1 n hF r=>?_
   exact k _ F1 H1 _ st.f (S1.putOw hi (by rw [hY]; exact hio) (S.fresh0 n) hF (fun j hj=>S.isSome hj n) r)
  ·cases e
end
end Z
namespace Z
open PySem PySem.Spec PyProof.Rows L2
structure FnG (P:Program) (w:World) (K:PySem.W.Frag) (mg:Str → Option Value) (base:Heap) (CX:CXT) (k:Nat) (f:Addr) (fd:FuncData) (ps:List Str) (sp:Sp):Prop where
 len:∀ us G Q E,sp us G Q E → us.length = ps.length
 run:∀ (A:Around) (out:List Env) (s:Shared) (G:Hp) (ar:Args) (ws:List Value) (us:List V) (Q:VK) (E:XK),A.guards = some [] → Room k A → Env0 P w K mg base A out s G → BindsTo s fd ar (ps.zip ws) → Vals us ws → sp us G Q E →
  codeAny (model P w) A (.call (.ref f) ar) (CR CX out P w G s Q E) s
section
variable {P:Program} {w:World} {K:PySem.W.Frag} {mg:Str → Option Value} {base:Heap} {CX:CXT} {k:Nat} {f:Addr} {fd:FuncData} {ps:List Str} {sp:Sp}
theorem FnG.mk' {x qual:Str} {st:Stmt} {N:List Str} (Fu:Fun K x qual st f fd) (S:FnScope N ps (defScope st)) (len:∀ us G Q E,sp us G Q E → us.length = ps.length)
  (body:∀ (cd:Value) (A:Around) (out:List Env) (s:Shared) (G:Hp) (us:List V) (Q:VK) (E:XK),A.guards = some [] → Room k (A.deeper (envOfC qual (defScope st) s.heap.objs.size f cd)) → sp us G Q E →
   ∃ t,PSs (cxOf CX P w K mg base N qual (defScope st) f cd A out s G E) (defBody st) t ∧ t { nx:=fun _ G'=>Q .non G',rt:=Q } (start N us) G):FnG P w K mg base CX (k + 1) f fd ps sp:=by
 obtain ⟨oc,od,kV,doc,pm,an,cd,ct,osl,rfl,lk,hcd⟩:=Fu.ex
 refine ⟨len,?_⟩
 intro A out s G ar ws us Q E hG hR e0 hb hv hsp
 have n:=len _ _ _ _ hsp
 have inK:K.In s.heap:=e0.mod.kin.keeps (fun b o e=>(e0.bs b o e).1)
 have room:s.heap.NoLimit:=e0.mod.nolimit.keeps (fun b o e=>(e0.bs b o e).1)
 have kinds:∀ y ∈ ps.zip ws,(defScope st).names.lookup y.1 = some .local ∨ ((defScope st).names.lookup y.1 = some .cell ∧ ((cellsFrom (s.heap.objs.size + 1) (defScope st).names []).lookup y.1).isSome = true):=by
  rintro ⟨m,v⟩ hy
  rcases S.par m (List.of_mem_zip hy).1 with q | q
  ·exact .inl q
  ·exact .inr ⟨q,PySem.W.cellsFrom_some _ _ _ (.inl q)⟩
 refine codeAny_call_function hR.depth (inK _ _ lk) rfl S.co S.gen rfl (PySem.W.codeRec_of inK hcd) (hb _ _ _ _ ?_)
 refine wpAny_newFunctionEnv_cells S.kind kinds fun env he s1 x=>?_
 subst he
 refine ⟨room.keeps x.toInCall.keep,codeAny_func ?_⟩
 obtain ⟨t,ht,hq⟩:=body cd A out s G us Q E hG (hR.deeper _) hsp
 have J0:=inv_start (CX:=CX) (E:=E) S hR.hd e0 n hv x
 refine wpAny_mono (ht.run [] s1 (start N us) G _ J0 hq) (fun fl s2 hs=>?_) (fun _ _ hs=>hs)
 cases fl with
 | ret u =>
  obtain ⟨v,σ2,G2,J,rv,q⟩:=hs
  exact ⟨v,G2,J.os,J.bare,J.base,J.hok,rv,q⟩
 | next =>
  obtain ⟨σ2,G2,J,q⟩:=hs
  exact ⟨.non,G2,J.os,J.bare,J.base,J.hok,rfl,q⟩
 | brk =>
  obtain ⟨_,_,_,q⟩:=hs
  exact q.elim
 | cont =>
  obtain ⟨_,_,_,q⟩:=hs
  exact q.elim
end
section
variable {X:Cx} {CX:CXT} {k:Nat} {f:Addr} {fd:FuncData} {ps:List Str} {sp:Sp} {E:XK} {x:Str} {p pos:Pos} {e:Expr} {es:List Expr} {t:TA}
theorem FnG.pe (Fn:FnG X.prog X.w X.K X.mg X.base CX k f fd ps sp) (hG:X.A.guards = some []) (hR:Room k X.A) (gl:Gl X x) (m:X.mg x = some (.ref f)) (kp:PySem.W.keepIn X.K (.ref f) = true) (hb:Binds X.K fd ps []) (hx:Passes CX X E)
  (ha:PA X (e :: es) t) (db:(x == ("__debug__":Str)) = false) (h1:starEach (e :: es) X.env = (false,eval e X.env) :: starEach es X.env) (h2:(backTo pos (starEach es X.env)).any (·.1) = false) :
  PE X (.Call (.Name x p) (e :: es) [] pos) (tCall sp [] E t):=by
 constructor
 intro pins s σ G Q I h
 refine wpAny_Call_Name_kw (ld_glob I gl m ?_ db)
 refine PySem.W.callWith_K (h₀:=X.base) I.ok.mod.kin kp (thn (ha.run pos pins s σ G _ I h) ?_) h1 h2
 rintro ws s1 ⟨us,G1,I1,r,q⟩
 refine ⟨I1.kIn,?_⟩
 rw [J7] at q
 have n:=Fn.len _ _ _ _ q
 have n2:(ws ++ []).length = ps.length:=by rw [J7,← r.length]; exact n
 have b:=hb s1 ws I1.kIn n2
 rw [J7] at b
 refine wpAny_call (codeAny_mono (Fn.run X.A X.stack s1 G1 ⟨ws,[]⟩ ws us Q E hG hR I1.env0 b r q) ?_)
 intro res s2 hq
 cases res with
 | error er=>exact hx pins σ G1 s1 er s2 I1 hq
 | ok fl =>
  cases fl with
  | ret u=>exact I1.after hq
  | next=>exact hq.elim
  | brk=>exact hq.elim
  | cont=>exact hq.elim
end
def Z9:Sl → Bool
 | .ow _=>true
 | .lk _=>true
 | .dk _ _ _=>true
 | .ob _ _=>true
 | .dl _=>true
 | _=>false
def QdY:Sl → Bool
 | .ob _ _=>true
 | _=>false
def Zi (s:Sl):Bool:=Z9 s && !QdY s
theorem Q7G {s:Sl} (h:Zi s = true):Z9 s = true:=by
 unfold Zi at h
 rw [Q6] at h
 exact h.1
def Ret (K:PySem.W.Frag) (A:Nat → List Addr) (fr:Fr) (H F' H':Hp) (v:V) (d:D):Prop :=
 match fr with
 | .n=>Rp K F' v d
 | .t=>PlT K F' v d
 | .l=>∃ p,v = .ref p ∧ H p = none ∧ F' p = none ∧ Wz K F' H' p d
 | .p=>∃ a p q d0 d1,v = .ref a ∧ d = .tuple [d0,d1] ∧ H' a = some (.tup [.ref p,.ref q]) ∧ p ≠ q ∧ (H p = none ∧ F' p = none ∧ Wz K F' H' p d0) ∧ H q = none ∧ F' q = none ∧ Wz K F' H' q d1
 | .s j=>∃ p,v = .ref p ∧ A j = [p]
def spF (K:PySem.W.Frag) (n:Nat) (fr:Fr) (φ:List Sl → Option (D × List Sl)):Sp:=fun us H Q _ =>
 ∃ (F:Hp) (as:List Sl) (A:Nat → List Addr),as.length = n ∧ SR K Fx.any F H as (us.map some) A ∧ ∃ d outs,φ as = some (d,outs) ∧
  ∀ v F' H',Stp A (List.range n) F H F' H' → SR K Fx.any F' H' outs (us.map some) A → Ret K A fr H F' H' v d → Q v H'
theorem Qbf {K:PySem.W.Frag} {n:Nat} {fr:Fr} {φ} {us:List V} {H:Hp} {Q:VK} {E:XK} (h:spF K n fr φ us H Q E):us.length = n:=by
 obtain ⟨F,as,A,hn,S,_⟩:=h
 have:=S.len
 rw [Q3] at this
 omega
def V6:List Sl → List Sl → Option (List Sl)
 | [],_=>some []
 | a :: r,b :: s=>match Z9 a with
  | true=>match Zi b with
   | true=>(V6 r s).map (b :: ·)
   | false=>none
  | false=>(V6 r s).map (a :: ·)
 | _ :: _,[]=>none
def Q1T (sg:List Bool) (as:List Sl):Bool:=decide (as.map Z9 = sg) && as.all fun a=>!QdY a
theorem Q4T {sg:List Bool} {as:List Sl} (h:Q1T sg as = true):as.map Z9 = sg:=by
 unfold Q1T at h
 rw [Q6] at h
 exact of_decide_eq_true h.1
def fnF (sg:List Bool) (m:Nat) (fr:Fr) (g:List Sl → Option Out):List Sl → Option (D × List Sl):=fun as =>
 if Q1T sg as then
  match g (as ++ Q8 (m - sg.length) .no) with
  | some (.rt d δ)=>(V6 as δ).map fun o=>(d,o)
  | some (.nx δ)=>match fr with
   | .n=>(V6 as δ).map fun o=>(.none,o)
   | _=>none
  | _=>none
 else none
theorem Q09:∀ {as δ o:List Sl},V6 as δ = some o → o.length = as.length
 | [],_,_,h=>by cases h; rfl
 | a :: r,b :: s,o,h=>by
  unfold V6 at h
  split at h
  ·split at h
   ·cases e:V6 r s with
    | none=>rw [e] at h; cases h
    | some z=>rw [e] at h; cases h; exact congrArg (· + 1) (Q09 e)
   ·cases h
  ·cases e:V6 r s with
   | none=>rw [e] at h; cases h
   | some z=>rw [e] at h; cases h; exact congrArg (· + 1) (Q09 e)
 | _ :: _,[],_,h=>by cases h
theorem Q0w:∀ {as δ o:List Sl} {i:Nat} {a:Sl},V6 as δ = some o → as[i]? = some a → (Z9 a = true ∧ ∃ b,δ[i]? = some b ∧ Zi b = true ∧ o[i]? = some b) ∨ (Z9 a = false ∧ o[i]? = some a)
 | [],_,_,_,_,_,e=>by simp at e
 | a :: r,b :: s,o,i,c,h,e=>by
  unfold V6 at h
  split at h
  ·rename_i ha
   split at h
   ·rename_i hb
    cases e1:V6 r s with
    | none=>rw [e1] at h; cases h
    | some z =>
     rw [e1] at h
     cases h
     cases i with
     | zero=>cases e; exact .inl ⟨ha,b,rfl,hb,rfl⟩
     | succ i=>exact Q0w (i:=i) e1 e
   ·cases h
  ·rename_i ha
   cases e1:V6 r s with
   | none=>rw [e1] at h; cases h
   | some z =>
    rw [e1] at h
    cases h
    cases i with
    | zero =>
     cases e
     refine .inr ⟨?_,rfl⟩
     cases q:Z9 a with
     | false=>rfl
     | true=>exact absurd q (by simpa using ha)
    | succ i=>exact Q0w (i:=i) e1 e
 | _ :: _,[],_,_,_,h,_=>by cases h
def Kf (sg:List Bool) (i:Nat):Bool:=sg.getD i false
section
variable {K:PySem.W.Frag} {F H F' H':Hp} {as:List Sl} {us:List V} {A:Nat → List Addr}
theorem Q6W {s:Sl} {v:Option V} {B:List Addr} (h:Q00 K F H s v B) (n:Z9 s = false):B = []:=by
 cases s with
 | no=>exact h
 | fz d=>exact h.1
 | ow d=>cases n
 | lk d=>cases n
 | dk _ _ _=>cases n
 | ob _ _=>cases n
 | dl _=>cases n
 | ab=>exact h.1
 | xv _=>exact h.1
 | scr _=>exact h.1
theorem SR.entry {sg:List Bool} {N:List Str} (S:SR K Fx.any F H as (us.map some) A) (h:Q1T sg as = true) (hN:sg.length ≤ N.length) :
  SR K ⟨Iom.of (Kf sg),Kf sg,fun _=>false,H,F,start N us,A,fun _ z=>Bool.noConfusion z⟩ F H (as ++ Q8 (N.length - sg.length) .no) (start N us) A:=by
 have hsg:as.map Z9 = sg:=Q4T h
 have l1:as.length = sg.length:=by rw [← hsg,Q3]
 have l2:as.length = us.length:=by have:=S.len; rwa [Q3] at this
 have own:∀ i a,as[i]? = some a → Kf sg i = Z9 a:=fun i a e=>by
  unfold Kf
  rw [← hsg,Jf,Qo,e]
  rfl
 have ino:∀ i,Kf sg i = true → ∃ a,as[i]? = some a ∧ Z9 a = true:=fun i h=>by
  cases e:as[i]? with
  | none =>
   unfold Kf at h
   rw [← hsg,Jf,Qo,e] at h
   cases h
  | some a=>exact ⟨a,rfl,by rw [← own i a e]; exact h⟩
 refine ⟨?_,fun i s e=>?_,fun i e=>?_,S.dis,S.hid,fun i a ha hi=>?_,S.sub,fun i _=>⟨rfl,rfl⟩,fun i hi=>?_,fun _ _ e _=>e,fun _ e n=>absurd e n,Same.refl _,fun _ h=>h.elim id (fun z=>(by cases z)),fun i c fs e=>?_,fun i hi e=>?_⟩
 ·unfold L2.start
  rw [Qs,List.length_replicate,Qs,Q3,List.length_replicate]
  omega
 ·by_cases c:i < as.length
  ·rw [Qx c] at e
   have:=S.slot i s e
   unfold L2.start
   rw [Qx (by rw [Q3]; omega)]
   exact this
  ·rw [List.getElem?_append_right (by omega),List.getElem?_replicate] at e
   split at e
   ·cases e
    exact S.out i (Qy (by omega))
   ·cases e
 ·have:as.length ≤ i:=by
   have:=List.getElem?_eq_none_iff.mp e
   rw [Qs] at this
   omega
  exact S.out i (Qy this)
 ·cases e:as[i]? with
  | none=>rw [S.out i e] at ha; simp at ha
  | some s =>
   rw [Q6W (S.slot i s e) (by rw [← own i s e]; exact hi)] at ha
   simp at ha
 ·exact trivial
 ·by_cases c:i < as.length
  ·rw [Qx c] at e
   obtain ⟨h1,h2⟩:=S.ob i _ fs e
   have hfs:fs = []:=by
    cases fs with
    | nil=>rfl
    | cons q r=>cases h1 q Q5
   subst hfs
   refine ⟨by simp,fun p C dx fvs e1 e2=>h2 p C dx fvs ?_ e2⟩
   unfold L2.start at e1
   rw [Qx (by rw [Q3]; omega)] at e1
   exact e1
  ·rw [List.getElem?_append_right (by omega),List.getElem?_replicate] at e
   split at e <;> cases e
 ·obtain ⟨a,e1,ho⟩:=ino i hi
  have c:=(Qi.mp e1).1
  rw [Qx c,e1] at e
  cases e
  cases ho
theorem SR.leave {sg:List Bool} {N:List Str} {δ' outs:List Sl} {σ':L2.St} {A':Nat → List Addr} (S:SR K Fx.any F H as (us.map some) A) (h:Q1T sg as = true) (hN:sg.length ≤ N.length) (S':SR K ⟨Iom.of (Kf sg),Kf sg,fun _=>false,H,F,start N us,A,fun _ z=>Bool.noConfusion z⟩ F' H' δ' σ' A') (hm:V6 as δ' = some outs) :
  Stp A (List.range sg.length) F H F' H' ∧ SR K Fx.any F' H' outs (us.map some) A:=by
 have hsg:as.map Z9 = sg:=Q4T h
 have l1:as.length = sg.length:=by rw [← hsg,Q3]
 have l2:as.length = us.length:=by have:=S.len; rwa [Q3] at this
 have own:∀ i a,as[i]? = some a → Kf sg i = Z9 a:=fun i a e=>by
  unfold Kf
  rw [← hsg,Jf,Qo,e]
  rfl
 have nul:∀ i,Kf sg i = false → A i = []:=fun i hi=>by
  cases e:as[i]? with
  | none=>exact S.out i e
  | some s=>exact Q6W (S.slot i s e) (by rw [← own i s e]; exact hi)
 have lo:=Q09 hm
 have eqA:∀ i,Kf sg i = true → A' i = A i:=fun i hi=>(S'.fix i hi).2
 have small:∀ i,Kf sg i = true → i < sg.length:=fun i hi=>by
  cases Nat.lt_or_ge i sg.length with
  | inl h=>exact h
  | inr h =>
   unfold Kf at hi
   rw [Jf,Qy h] at hi
   cases hi
 refine ⟨⟨S'.f0,S'.nw,fun a o e n=>S'.kp a o e fun i hi z=>n i (List.mem_range.mpr (small i hi)) z⟩,?_⟩
 refine ⟨by rw [lo]; exact S.len,fun i s e=>?_,fun i e=>?_,S.dis,fun i a ha=>?_,fun _ _ _ _=>rfl,S'.sub,fun i hi=>?_,fun i hi=>?_,fun _ _ e=>?_,fun _ _ _=>rfl,fun _ _ e=>?_,fun _ h=>(by rcases h with h | h <;> cases h),fun i c fs e=>?_,fun _ h=>by cases h⟩
 ·have hi:i < as.length:=by rw [← lo]; exact (Qi.mp e).1
  obtain ⟨a,ea⟩:∃ a,as[i]? = some a:=⟨_,Ql hi⟩
  rcases Q0w hm ea with ⟨h1,b,h2,h3,h4⟩ | ⟨h1,h2⟩
  ·rw [e] at h4
   cases h4
   have io:Kf sg i = true:=by rw [own i a ea]; exact h1
   have q:=S'.slot i s h2
   obtain ⟨f1,f2⟩:=S'.fix i io
   rw [f1,f2] at q
   have:(start N us)[i]? = (us.map some)[i]?:=by
    unfold L2.start
    rw [Qx (by rw [Q3]; omega)]
   rw [show (⟨Iom.of (Kf sg),Kf sg,fun _=>false,H,F,start N us,A,fun _ z=>Bool.noConfusion z⟩:Fx).σ0 = start N us from rfl,this] at q
   exact q
  ·rw [e] at h2
   cases h2
   have io:Kf sg i = false:=by rw [own i s ea]; exact h1
   refine (S.slot i s ea).mono S'.f0 fun a ha=>?_
   rw [nul i io] at ha
   simp at ha
 ·exact S.out i (Qy (by rw [← lo]; exact List.getElem?_eq_none_iff.mp e))
 ·cases c:Kf sg i with
  | true =>
   rw [← eqA i c] at ha
   exact S'.hid i a ha
  | false =>
   rw [nul i c] at ha
   simp at ha
 ·cases hi
 ·cases hi
 ·cases e
 ·cases e
 ·have hi:i < as.length:=by rw [← lo]; exact (Qi.mp e).1
  obtain ⟨a,ea⟩:∃ a,as[i]? = some a:=⟨_,Ql hi⟩
  rcases Q0w hm ea with ⟨h1,b,h2,h3,h4⟩ | ⟨h1,h2⟩
  ·rw [e] at h4
   cases h4
   cases h3
  ·rw [e] at h2
   cases h2
   cases h1
end
section
variable {P:Program} {w:World} {K:PySem.W.Frag} {mg:Str → Option Value} {base:Heap} {CX:CXT} {k:Nat} {f:Addr} {fd:FuncData} {ps:List Str}
theorem V0 {x qual:Str} {st:Stmt} {N:List Str} {sg:List Bool} {fr:Fr} {g:List Sl → Option Out} (Fu:Fun K x qual st f fd) (S:FnScope N ps (defScope st)) (hl:sg.length = ps.length)
  (body:∀ (cd:Value) (A:Around) (out:List Env) (s:Shared) (G:Hp) (E:XK),A.guards = some [] → Room k (A.deeper (envOfC qual (defScope st) s.heap.objs.size f cd)) → BV (cxOf CX P w K mg base N qual (defScope st) f cd A out s G E) (Iom.of (Kf sg)) fr (defBody st) g) :
  FnG P w K mg base CX (k + 1) f fd ps (spF K ps.length fr (fnF sg N.length fr g)):=by
 have hN:sg.length ≤ N.length:=by
  rw [hl]
  have:=congrArg List.length S.pre
  rw [Je] at this
  omega
 refine FnG.mk' Fu S (fun us G Q E h=>Qbf h) fun cd A out s G us Q E hG hR h=>?_
 obtain ⟨t,p,q⟩:=body cd A out s G E hG hR
 refine ⟨t,p,?_⟩
 obtain ⟨F,as,B,hn,S0,d,outs,hφ,kk⟩:=h
 unfold fnF at hφ
 split at hφ
 ·rename_i ok
  have S1:=S0.entry ok hN
  cases e:g (as ++ Q8 (N.length - sg.length) .no) with
  | none=>rw [e] at hφ; cases hφ
  | some o =>
   rw [e] at hφ
   refine q ⟨Iom.of (Kf sg),Kf sg,fun _=>false,G,F,start N us,B,fun _ z=>Bool.noConfusion z⟩ F G _ (start N us) B rfl S1 o e _ ?_
   cases o with
   | rt d1 δ1 =>
    simp only at hφ
    cases e2:V6 as δ1 with
    | none=>rw [e2] at hφ; cases hφ
    | some o =>
     rw [e2] at hφ
     cases hφ
     intro v σ' F' G' B' sF S2 r
     obtain ⟨st',S3⟩:=S0.leave ok hN S2 e2
     rw [hl] at st'
     refine kk v F' G' st' S3 ?_
     cases fr with
     | n=>exact r
     | t=>exact r
     | l =>
      obtain ⟨p',rv,h0,hF,_,ow⟩:=r
      exact ⟨p',rv,h0,hF,ow⟩
     | p =>
      obtain ⟨a',p',q',d0,d1,rv,rd,ha,ne,⟨h0,hF,_,ow⟩,h1,hF1,_,ow1⟩:=r
      exact ⟨a',p',q',d0,d1,rv,rd,ha,ne,⟨h0,hF,ow⟩,h1,hF1,ow1⟩
     | s j =>
      obtain ⟨_,hio,p',rv,ha⟩:=r
      exact ⟨p',rv,(S2.fix j hio).2.symm.trans ha⟩
   | nx δ1 =>
    cases fr with
    | l=>cases hφ
    | t=>cases hφ
    | p=>cases hφ
    | s j=>cases hφ
    | n =>
     simp only at hφ
     cases e2:V6 as δ1 with
     | none=>rw [e2] at hφ; cases hφ
     | some o =>
      rw [e2] at hφ
      cases hφ
      intro σ' F' G' B' sF S2
      obtain ⟨st',S3⟩:=S0.leave ok hN S2 e2
      rw [hl] at st'
      exact kk .non F' G' st' S3 .non
   | ct δ1=>cases hφ
 ·cases hφ
end
end Z
namespace Z
open PySem PySem.Spec PyProof.Rows L2
inductive Ar where
 | d (d:D)
 | io (i:Nat)
def ArR (K:PySem.W.Frag) (F H:Hp) (A:Nat → List Addr) (R:List Nat) (σ:L2.St):List V → List Ar → Prop
 | [],[]=>True
 | v :: vs,.d d :: r=>Vw K F H A R v d ∧ ArR K F H A R σ vs r
 | v :: vs,.io i :: r=>σ[i]? = some (some v) ∧ ArR K F H A R σ vs r
 | _,_=>False
def CV (X:Cx) (es:List Expr) (f:List Sl → Option (List Ar × List Sl)) (R M:List Nat):Prop :=
 ∃ t,PA X es t ∧ ∀ (Y:Fx) (F H:Hp) (δ:List Sl) (σ:L2.St) (A:Nat → List Addr),SR X.K Y F H δ σ A → ∀ (as:List Ar) (δ':List Sl),f δ = some (as,δ') → ∀ Q:List V → Hp → Prop,
  (∀ vs F' H',Stp A M F H F' H' → SR X.K Y F' H' δ' σ A → ArR X.K F' H' A R σ vs as → Q vs H') → t σ H Q
def Y0:List Sl → Option (List Ar × List Sl):=fun δ=>some ([],δ)
def X1 (fa:List Sl → Option (D × List Sl)) (fr:List Sl → Option (List Ar × List Sl)):List Sl → Option (List Ar × List Sl):=fun δ=>(fa δ).bind fun p=>(fr p.2).map fun q=>(.d p.1 :: q.1,q.2)
def Q4W (i:Nat) (δ:List Sl):Bool:=match δ[i]? with
 | some s=>Zi s
 | none=>false
def kIo (i:Nat) (fr:List Sl → Option (List Ar × List Sl)):List Sl → Option (List Ar × List Sl):=fun δ=>if Q4W i δ then (fr δ).map fun q=>(.io i :: q.1,q.2) else none
section
variable {X:Cx}
theorem ArR.mono {K:PySem.W.Frag} {F H:Hp} {A:Nat → List Addr} {R R':List Nat} {σ:L2.St} (s:∀ i ∈ R,i ∈ R'):∀ {vs:List V} {as:List Ar},ArR K F H A R σ vs as → ArR K F H A R' σ vs as
 | [],[],_=>trivial
 | v :: vs,.d d :: r,⟨h,t⟩=>⟨h.mono s,ArR.mono s t⟩
 | v :: vs,.io i :: r,⟨h,t⟩=>⟨h,ArR.mono s t⟩
 | [],_ :: _,h=>h.elim
 | _ :: _,[],h=>h.elim
theorem Q9w:CV X [] Y0 [] []:=by
 refine ⟨_,pa_nil,fun Y F H δ σ A S d' δ' e Q k=>?_⟩
 cases e
 exact k _ _ _ Stp.refl S trivial
theorem Q5O {a:Expr} {es:List Expr} {fa fr} {Ra Rr Ma Mr:List Nat} (ha:EV X a fa Ra Ma) (hr:CV X es fr Rr Mr) (dj:∀ i ∈ Ra,i ∉ Mr:=by decide) (hs:starEach (a :: es) X.env = (false,eval a X.env) :: starEach es X.env:=by rfl):CV X (a :: es) (X1 fa fr) (Ra ++ Rr) (Ma ++ Mr):=by
 obtain ⟨ta,pa,qa⟩:=ha
 obtain ⟨tb,pb,qb⟩:=hr
 refine ⟨_,pa_cons pa pb hs,fun Y F H δ σ A S ds δ' e Q k=>?_⟩
 unfold X1 at e
 cases e1:fa δ with
 | none=>rw [e1] at e; cases e
 | some p =>
  obtain ⟨d,δ1⟩:=p
  rw [e1] at e
  simp only [Q1] at e
  cases e2:fr δ1 with
  | none=>rw [e2] at e; cases e
  | some q =>
   obtain ⟨r,δ2⟩:=q
   rw [e2] at e
   cases e
   refine qa Y F H δ σ A S d δ1 e1 _ fun x F1 H1 st1 S1 r1=>?_
   refine qb Y F1 H1 δ1 σ A S1 r _ e2 _ fun y F2 H2 st2 S2 r2=>?_
   exact k _ F2 H2 (st1.trans S1 st2) S2 ⟨(r1.step S1 st2 dj).mono fun i hi=>Qa _ hi,r2.mono fun i hi=>Qf _ hi⟩
theorem Qb8 {K:PySem.W.Frag} {F H:Hp} {s:Sl} {v:Option V} {B:List Addr} (h:Q00 K F H s v B) (n:Z9 s = true):∃ p,v = some (.ref p):=by
 cases s with
 | no=>cases n
 | fz d=>cases n
 | ow d=>obtain ⟨p,e,_⟩:=h; exact ⟨p,e⟩
 | lk d=>obtain ⟨p,e,_⟩:=h; exact ⟨p,e⟩
 | dk _ _ _=>obtain ⟨p,q,e,_⟩:=h; exact ⟨p,e⟩
 | ob _ _=>obtain ⟨p,q,_,_,e,_⟩:=h; exact ⟨p,e⟩
 | dl _=>obtain ⟨p,q,_,e,_⟩:=h; exact ⟨p,e⟩
 | ab=>cases n
 | xv _=>cases n
 | scr _=>cases n
theorem Qcw {i:Nat} {x:Str} {pos:Pos} {es:List Expr} {fr} {R M:List Nat} (n:Nm X i x) (hr:CV X es fr R M) (hs:starEach (.Name x pos :: es) X.env = (false,eval (.Name x pos) X.env) :: starEach es X.env:=by rfl):CV X (.Name x pos :: es) (kIo i fr) R M:=by
 obtain ⟨tb,pb,qb⟩:=hr
 refine ⟨_,pa_cons n.pe pb hs,fun Y F H δ σ A S ds δ' e Q k=>?_⟩
 unfold kIo at e
 split at e
 ·rename_i ho
  cases e2:fr δ with
  | none=>rw [e2] at e; cases e
  | some q =>
   obtain ⟨r,δ2⟩:=q
   rw [e2] at e
   cases e
   unfold Q4W at ho
   split at ho
   ·rename_i s hs'
    obtain ⟨p,ep⟩:=Qb8 (S.slot i s hs') (Q7G ho)
    refine ⟨.ref p,Vb ep,?_⟩
    exact qb Y F H δ σ A S r _ e2 _ fun y F2 H2 st2 S2 r2=>k _ F2 H2 st2 S2 ⟨Vb ep,r2⟩
   ·cases ho
 ·cases e
def ios:List Ar → List Nat
 | []=>[]
 | .d _ :: r=>ios r
 | .io i :: r=>i :: ios r
def Q69 (δ:List Sl):Ar → Sl
 | .d d=>.fz d
 | .io i=>δ[i]?.getD .no
def Vc:List Ar → List Sl → List Sl → List Sl
 | .io i :: r,b :: s,δ=>Vc r s (δ.set i b)
 | .d _ :: r,_ :: s,δ=>Vc r s δ
 | _,_,δ=>δ
def Q91:Sl → Bool
 | .dk _ _ _=>true
 | _=>false
def Q1F (R:List Nat) (δ:List Sl) (as:List Ar):Bool:=decide ((ios as).Nodup) && (ios as).all (fun i=>Q4W i δ && !(R.contains i) && (R.isEmpty || (match δ[i]? with | some s=>Q91 s | none=>false)))
def Wv (R:List Nat):List Ar → List Sl → Bool
 | .io _ :: r,b :: s=>Zi b && (R.isEmpty || Q91 b) && Wv R r s
 | .d _ :: r,_ :: s=>Wv R r s
 | [],[]=>true
 | _,_=>false
def Xb (R:List Nat) (flat:Bool) (φ:List Sl → Option (D × List Sl)) (f:List Sl → Option (List Ar × List Sl)):List Sl → Option (D × List Sl):=fun δ=>(f δ).bind fun p =>
 if Q1F R p.2 p.1 then (φ (p.1.map (Q69 p.2))).bind fun q=>if Wv R p.1 q.2 && (R.isEmpty || (flat && noL q.1)) then some (q.1,Vc p.1 q.2 p.2) else none else none
end
section
variable {K:PySem.W.Frag} {Y:Fx} {F H:Hp} {δ:List Sl} {σ:L2.St} {A:Nat → List Addr} {R:List Nat}
def Zr (A:Nat → List Addr) (as:List Ar):Nat → List Addr:=fun j=>match as[j]? with
 | some (.io i)=>A i
 | _=>[]
theorem Z3 {as:List Ar} {i:Nat}:i ∈ ios as ↔ ∃ j:Nat,as[j]? = some (Ar.io i):=by
 induction as with
 | nil=>simp [ios]
 | cons a r ih =>
  cases a with
  | d d =>
   rw [show ios (.d d :: r) = ios r from rfl,ih]
   constructor
   ·rintro ⟨j,h⟩
    exact ⟨j + 1,h⟩
   ·rintro ⟨j,h⟩
    cases j with
    | zero=>cases h
    | succ j=>exact ⟨j,h⟩
  | io k =>
   rw [show ios (.io k :: r) = k :: ios r from rfl,Q7,ih]
   constructor
   ·rintro (rfl | ⟨j,h⟩)
    ·exact ⟨0,rfl⟩
    ·exact ⟨j + 1,h⟩
   ·rintro ⟨j,h⟩
    cases j with
    | zero=>cases h; exact .inl rfl
    | succ j=>exact .inr ⟨j,h⟩
theorem Qc4 {as:List Ar} (h:(ios as).Nodup):∀ {j k i:Nat},as[j]? = some (.io i) → as[k]? = some (.io i) → j = k:=by
 induction as with
 | nil=>intro j k i e; simp at e
 | cons a r ih =>
  intro j k i e1 e2
  cases a with
  | d d =>
   cases j with
   | zero=>cases e1
   | succ j =>
    cases k with
    | zero=>cases e2
    | succ k=>rw [ih h e1 e2]
  | io m =>
   rw [show ios (.io m :: r) = m :: ios r from rfl,List.nodup_cons] at h
   cases j with
   | zero =>
    cases e1
    cases k with
    | zero=>rfl
    | succ k=>exact absurd (Z3.mpr ⟨k,e2⟩) h.1
   | succ j =>
    cases k with
    | zero =>
     cases e2
     exact absurd (Z3.mpr ⟨j,e1⟩) h.1
    | succ k=>rw [ih h.2 e1 e2]
theorem ArR.get:∀ {vs:List V} {as:List Ar} {j:Nat} {a:Ar},ArR K F H A R σ vs as → as[j]? = some a → ∃ v,vs[j]? = some v ∧ (match a with | .d d=>Vw K F H A R v d | .io i=>σ[i]? = some (some v))
 | [],[],_,_,_,e=>by simp at e
 | v :: vs,.d d :: r,0,_,⟨h,t⟩,e=>by cases e; exact ⟨v,rfl,h⟩
 | v :: vs,.io i :: r,0,_,⟨h,t⟩,e=>by cases e; exact ⟨v,rfl,h⟩
 | v :: vs,.d d :: r,j + 1,a,⟨h,t⟩,e=>ArR.get (j:=j) t e
 | v :: vs,.io i :: r,j + 1,a,⟨h,t⟩,e=>ArR.get (j:=j) t e
 | [],_ :: _,_,_,h,_=>h.elim
 | _ :: _,[],_,_,h,_=>h.elim
theorem ArR.length:∀ {vs:List V} {as:List Ar},ArR K F H A R σ vs as → vs.length = as.length
 | [],[],_=>rfl
 | v :: vs,.d d :: r,⟨h,t⟩=>congrArg (· + 1) t.length
 | v :: vs,.io i :: r,⟨h,t⟩=>congrArg (· + 1) t.length
 | [],_ :: _,h=>h.elim
 | _ :: _,[],h=>h.elim
theorem Q19 {as:List Ar} (h:Q1F R δ as = true) {i:Nat} (hi:i ∈ ios as):∃ s,δ[i]? = some s ∧ Zi s = true ∧ i ∉ R ∧ (R = [] ∨ Q91 s = true):=by
 unfold Q1F at h
 rw [Q6] at h
 have:=Qq.mp h.2 i hi
 simp only [Q6,J8,Bool.not_eq_true',List.isEmpty_iff] at this
 obtain ⟨⟨h1,h2⟩,h3⟩:=this
 unfold Q4W at h1
 cases e:δ[i]? with
 | none=>rw [e] at h1; cases h1
 | some s =>
  rw [e] at h1 h3
  exact ⟨s,rfl,h1,by simpa using h2,h3⟩
theorem Q74 {as:List Ar} (h:Q1F R δ as = true):(ios as).Nodup:=by
 unfold Q1F at h
 rw [Q6] at h
 exact of_decide_eq_true h.1
theorem SR.args {vs:List V} {as:List Ar} (S:SR K Y F H δ σ A) (ok:Q1F R δ as = true) (r:ArR K F H A R σ vs as):SR K Fx.any (ex R A F H) H (as.map (Q69 δ)) (vs.map some) (Zr A as):=by
 have nd:=Q74 ok
 have mem:∀ j a,a ∈ Zr A as j → ∃ i,as[j]? = some (.io i) ∧ a ∈ A i:=fun j a h=>by
  unfold Zr at h
  split at h
  ·rename_i i e
   exact ⟨i,e,h⟩
  ·simp at h
 refine ⟨by rw [Q3,Q3,r.length],fun j s e=>?_,fun j e=>?_,fun j k a h1 h2=>?_,fun j a h=>?_,fun _ _ _ _=>rfl,Q0o S,fun i hi=>?_,fun i hi=>?_,fun _ _ e=>?_,fun _ _ _=>rfl,fun _ _ e=>?_,fun _ h=>(by rcases h with h | h <;> cases h),fun j c fs e=>?_,fun _ h=>by cases h⟩
 ·rw [Qo] at e
  cases e1:as[j]? with
  | none=>rw [e1] at e; cases e
  | some a =>
   rw [e1] at e
   cases e
   obtain ⟨v,v1,v2⟩:=r.get e1
   have jv:jn (vs.map some)[j]? = some v:=by
    rw [Qo,v1]
    rfl
   rw [jv]
   cases a with
   | d d =>
    have:Zr A as j = []:=by unfold Zr; rw [e1]
    rw [this]
    exact ⟨rfl,v,rfl,v2.ex S⟩
   | io i =>
    have:Zr A as j = A i:=by unfold Zr; rw [e1]
    rw [this]
    obtain ⟨s,h1,h2,_⟩:=Q19 ok (Z3.mpr ⟨j,e1⟩)
    show Q00 K _ H (δ[i]?.getD .no) (some v) (A i)
    rw [h1]
    have q:=S.slot i s h1
    rw [v2] at q
    exact q.mono (Q31 S) fun _ _=>rfl
 ·rw [Qo] at e
  cases e1:as[j]? with
  | none=>unfold Zr; rw [e1]
  | some a=>rw [e1] at e; cases e
 ·obtain ⟨i,e1,m1⟩:=mem j a h1
  obtain ⟨i',e2,m2⟩:=mem k a h2
  have:=S.dis i i' a m1 m2
  subst this
  exact Qc4 nd e1 e2
 ·obtain ⟨i,e1,m1⟩:=mem j a h
  obtain ⟨s,h1,h2,h3,_⟩:=Q19 ok (Z3.mpr ⟨j,e1⟩)
  unfold ex
  rw [if_neg]
  ·exact S.hid i a m1
  ·rintro ⟨i',hi',m2⟩
   have:=S.dis i i' a m1 m2
   subst this
   exact h3 hi'
 ·cases hi
 ·cases hi
 ·cases e
 ·cases e
 ·rw [Qo] at e
  cases e1:as[j]? with
  | none=>rw [e1] at e; cases e
  | some a =>
   rw [e1] at e
   cases a with
   | d d=>cases e
   | io i =>
    obtain ⟨s,h1,h2,_⟩:=Q19 ok (Z3.mpr ⟨j,e1⟩)
    have e:some (δ[i]?.getD .no) = some (Sl.ob c fs):=e
    rw [h1] at e
    cases e
    cases h2
def Q1X (R:List Nat) (A:Nat → List Addr) (F:Hp):Hp:=fun a=>if ∃ i ∈ R,a ∈ A i then none else F a
theorem Q26 {F:Hp}:Q1X [] A F = F:=by
 funext a
 unfold Q1X
 rw [if_neg]
 simp
theorem Z1:∀ {as:List Ar} {s δ:List Sl},(Vc as s δ).length = δ.length
 | [],_,_=>by simp [Vc]
 | .d _ :: r,[],_=>by simp [Vc]
 | .io _ :: r,[],_=>by simp [Vc]
 | .d _ :: r,b :: s,δ=>Z1 (as:=r) (s:=s) (δ:=δ)
 | .io i :: r,b :: s,δ=>by rw [show Vc (.io i :: r) (b :: s) δ = Vc r s (δ.set i b) from rfl,Z1,Qk]
theorem Z5:∀ {as:List Ar} {s δ:List Sl} {i:Nat},i ∉ ios as → (Vc as s δ)[i]? = δ[i]?
 | [],_,_,_,_=>by simp [Vc]
 | .d _ :: r,[],_,_,_=>by simp [Vc]
 | .io _ :: r,[],_,_,_=>by simp [Vc]
 | .d _ :: r,b :: s,δ,i,h=>by
  show (Vc r s δ)[i]? = δ[i]?
  exact Z5 (as:=r) h
 | .io k :: r,b :: s,δ,i,h=>by
  rw [show ios (.io k :: r) = k :: ios r from rfl,Q7,not_or] at h
  rw [show Vc (.io k :: r) (b :: s) δ = Vc r s (δ.set k b) from rfl,Z5 h.2,Qc (Ne.symm h.1)]
theorem Q28:∀ {as:List Ar} {s δ:List Sl} {i j:Nat} {b:Sl},(ios as).Nodup → as[j]? = some (.io i) → s[j]? = some b → i < δ.length → (Vc as s δ)[i]? = some b
 | [],_,_,_,_,_,_,e,_,_=>by simp at e
 | .d _ :: r,[],_,_,_,_,_,_,e,_=>by simp at e
 | .io _ :: r,[],_,_,_,_,_,_,e,_=>by simp at e
 | .d _ :: r,c :: s,δ,i,j,b,nd,e,e2,hi=>by
  cases j with
  | zero=>cases e
  | succ j=>exact Q28 (as:=r) (s:=s) (j:=j) nd e e2 hi
 | .io k :: r,c :: s,δ,i,j,b,nd,e,e2,hi=>by
  rw [show ios (.io k :: r) = k :: ios r from rfl,List.nodup_cons] at nd
  rw [show Vc (.io k :: r) (c :: s) δ = Vc r s (δ.set k c) from rfl]
  cases j with
  | zero =>
   cases e
   cases e2
   rw [Z5 nd.1,Qh hi]
  | succ j=>exact Q28 (as:=r) (s:=s) (j:=j) nd.2 e e2 (by rw [Qk]; exact hi)
theorem Q1j:∀ {as:List Ar} {s:List Sl} {i j:Nat} {b:Sl},Wv R as s = true → as[j]? = some (.io i) → s[j]? = some b → Zi b = true ∧ (R = [] ∨ Q91 b = true)
 | [],_,_,_,_,_,e,_=>by simp at e
 | .d _ :: r,[],_,_,_,h,_,_=>by cases h
 | .io _ :: r,[],_,_,_,h,_,_=>by cases h
 | .d _ :: r,c :: s,i,j,b,h,e,e2=>by
  cases j with
  | zero=>cases e
  | succ j=>exact Q1j (as:=r) (s:=s) (j:=j) h e e2
 | .io k :: r,c :: s,i,j,b,h,e,e2=>by
  rw [show Wv R (.io k :: r) (c :: s) = (Zi c && (R.isEmpty || Q91 c) && Wv R r s) from rfl] at h
  simp only [Q6,J8,List.isEmpty_iff] at h
  cases j with
  | zero =>
   cases e2
   exact h.1
  | succ j=>exact Q1j (as:=r) (s:=s) (j:=j) h.2 e e2
theorem Q0z:∀ {as:List Ar} {s:List Sl},Wv R as s = true → s.length = as.length
 | [],[],_=>rfl
 | [],_ :: _,h=>by cases h
 | .d _ :: r,[],h=>by cases h
 | .io _ :: r,[],h=>by cases h
 | .d _ :: r,c :: s,h=>congrArg (· + 1) (Q0z (as:=r) (s:=s) h)
 | .io k :: r,c :: s,h=>by
  rw [show Wv R (.io k :: r) (c :: s) = (Zi c && (R.isEmpty || Q91 c) && Wv R r s) from rfl] at h
  simp only [Q6] at h
  exact congrArg (· + 1) (Q0z (as:=r) (s:=s) h.2)
theorem SR.behind {vs:List V} {as:List Ar} {F2 H2:Hp} {outs:List Sl} (S:SR K Y F H δ σ A) (ok:Q1F R δ as = true) (r:ArR K F H A R σ vs as) (st:Stp (Zr A as) (List.range as.length) (ex R A F H) H F2 H2)
  (S2:SR K Fx.any F2 H2 outs (vs.map some) (Zr A as)) (oo:Wv R as outs = true):Stp A (ios as) F H (Q1X R A F2) H2 ∧ SR K Y (Q1X R A F2) H2 (Vc as outs δ) σ A ∧ Same (Q1X R A F2) F2:=by
 have nd:=Q74 ok
 have nR:∀ a,F a ≠ none → ¬ ∃ i ∈ R,a ∈ A i:=fun a h=>by
  rintro ⟨i,_,m⟩
  exact h (S.hid i a m)
 have notarg:∀ i a,a ∈ A i → i ∉ ios as → ∀ j ∈ List.range as.length,a ∉ Zr A as j:=fun i a m hi j _ h=>by
  unfold Zr at h
  split at h
  ·rename_i i' e
   have:=S.dis i i' a m h
   subst this
   exact hi (Z3.mpr ⟨j,e⟩)
  ·simp at h
 have keep:∀ a o,H a = some o → (∀ i ∈ ios as,a ∉ A i) → H2 a = some o:=fun a o e n=>st.kp a o e fun j _ h=>by
  unfold Zr at h
  split at h
  ·rename_i i' e'
   exact n i' (Z3.mpr ⟨j,e'⟩) h
  ·simp at h
 have sU:Same (Q1X R A F2) F2:=fun a o e=>by
  unfold Q1X at e
  split at e
  ·cases e
  ·exact e
 have sF:Same F (Q1X R A F2):=fun a o e=>by
  have c:=nR a (by rw [e]; simp)
  have q:ex R A F H a = some o:=(if_neg c:ex R A F H a = F a).trans e
  show Q1X R A F2 a = some o
  unfold Q1X
  rw [if_neg c]
  exact st.f a o q
 have newH:∀ a,F a = none → Q1X R A F2 a ≠ none → H a = none:=fun a e n=>by
  unfold Q1X at n
  split at n
  ·exact absurd rfl n
  ·rename_i c
   have q:ex R A F H a = none:=(if_neg c:ex R A F H a = F a).trans e
   exact st.nw a q n
 have hidU:∀ i a,a ∈ A i → Q1X R A F2 a = none:=fun i a m=>by
  cases q:Q1X R A F2 a with
  | none=>rfl
  | some o =>
   have:=newH a (S.hid i a m) (by rw [q]; simp)
   exact absurd this (S.isSome m)
 have back_at:∀ {i},i ∈ ios as → ∃ b,(Vc as outs δ)[i]? = some b ∧ Zi b = true:=fun {i} c=>by
  obtain ⟨j,ej⟩:=Z3.mp c
  obtain ⟨s0,h1,h2,h3,h4⟩:=Q19 ok c
  have hj:j < as.length:=(Qi.mp ej).1
  have lo:=Q0z oo
  obtain ⟨b,eb⟩:∃ b,outs[j]? = some b:=⟨_,Ql (by omega)⟩
  exact ⟨b,Q28 (δ:=δ) nd ej eb (Qi.mp h1).1,(Q1j oo ej eb).1⟩
 refine ⟨⟨sF,newH,keep⟩,⟨by rw [Z1]; exact S.len,fun i s e=>?_,fun i e=>?_,S.dis,hidU,S.new,sU.trans S2.sub,S.fix,S.ioA,fun a o e n=>?_,fun a e n=>?_,S.f0.trans sF,S.lio,fun i c0 fs e=>?_,fun i hi e=>?_⟩,sU⟩
 ·by_cases c:i ∈ ios as
  ·obtain ⟨j,ej⟩:=Z3.mp c
   obtain ⟨s0,h1,h2,h3,h4⟩:=Q19 ok c
   have hj:j < as.length:=(Qi.mp ej).1
   have lo:=Q0z oo
   obtain ⟨b,eb⟩:∃ b,outs[j]? = some b:=⟨_,Ql (by omega)⟩
   have:=Q28 (δ:=δ) nd ej eb (Qi.mp h1).1
   have e:s = b:=J4.inj (e.symm.trans this)
   subst e
   obtain ⟨o1,o2⟩:=Q1j oo ej eb
   have q:=S2.slot j s eb
   obtain ⟨v,v1,v2⟩:=r.get ej
   have jv:jn (vs.map some)[j]? = some v:=by
    rw [Qo,v1]
    rfl
   have eA:Zr A as j = A i:=by unfold Zr; rw [ej]
   rw [jv,eA] at q
   rw [v2]
   rcases o2 with o2 | o2
   ·subst o2
    rw [Q26]
    exact q
   ·cases s with
    | dk cs m n=>exact q
    | _=>cases o2
  ·rw [Z5 c] at e
   refine (S.slot i s e).mono sF fun a ha=>?_
   obtain ⟨xs,q⟩:=(S.there ha).some
   rw [q,keep a _ q fun j hj z=>c (by rw [S.dis i j a ha z]; exact hj)]
 ·have:δ[i]? = none:=by
   have:=List.getElem?_eq_none_iff.mp e
   rw [Z1] at this
   exact Qy this
  exact S.out i this
 ·refine keep a o (S.kp a o e n) fun i hi m=>?_
  cases c:Y.lt i with
  | true =>
   have:=(S.fix i c).2
   rw [this] at m
   exact n i c m
  | false =>
   rw [S.new i a m c] at e
   cases e
 ·cases q:F a with
  | some o=>exact S.nw a e (by rw [q]; simp)
  | none=>exact S.fresh0 (newH a q n)
 ·have c:i ∉ ios as:=fun c=>by
   obtain ⟨b,h1,h2⟩:=back_at c
   rw [e] at h1
   cases h1
   cases h2
  rw [Z5 c] at e
  obtain ⟨h1,h2⟩:=S.ob i c0 fs e
  refine ⟨h1,fun p C dx fvs e1 e2=>h2 p C dx fvs e1 ?_⟩
  have hp:=S.obp e e1
  obtain ⟨xs,q⟩:=(S.there hp).some
  rw [q,← e2,keep p _ q fun j hj z=>c (by rw [S.dis i j p hp z]; exact hj)]
 ·by_cases c:i ∈ ios as
  ·obtain ⟨b,h1,h2⟩:=back_at c
   rw [e] at h1
   cases h1
   cases h2
  ·rw [Z5 c] at e
   exact S.vno i hi e
end
section
variable {X:Cx} {x:Str} {p pos:Pos} {e:Expr} {es:List Expr} {R M:List Nat} {f:List Sl → Option (List Ar × List Sl)} {φ:List Sl → Option (D × List Sl)}
structure Kn (X:Cx) (x:Str) (n:Nat) (fr:Fr) (φ:List Sl → Option (D × List Sl)):Prop where
 ex:∃ (CX:CXT) (k:Nat) (a:Addr) (fd:FuncData) (ps:List Str),FnG X.prog X.w X.K X.mg X.base CX k a fd ps (spF X.K ps.length fr φ) ∧ ps.length = n ∧ Room k X.A ∧ X.mg x = some (.ref a) ∧ PySem.W.keepIn X.K (.ref a) = true ∧ Binds X.K fd ps [] ∧ Passes CX X E0
 gd:X.A.guards = some []
 gl:Gl X x
 db:(x == ("__debug__":Str)) = false
theorem Q3K {flat:Bool} {δ δ':List Sl} {z:D} (h:Xb R flat φ f δ = some (z,δ')):∃ as δ1 outs,f δ = some (as,δ1) ∧ Q1F R δ1 as = true ∧ φ (as.map (Q69 δ1)) = some (z,outs) ∧ Wv R as outs = true ∧ (R = [] ∨ noL z = true) ∧ δ' = Vc as outs δ1:=by
 unfold Xb at h
 cases e1:f δ with
 | none=>rw [e1] at h; cases h
 | some w =>
  obtain ⟨as,δ1⟩:=w
  rw [e1] at h
  simp only [Q1] at h
  split at h
  ·rename_i ok
   cases e2:φ (as.map (Q69 δ1)) with
   | none=>rw [e2] at h; cases h
   | some w =>
    obtain ⟨d,outs⟩:=w
    rw [e2] at h
    simp only [Q1] at h
    split at h
    ·rename_i oo
     cases h
     simp only [Q6,J8,List.isEmpty_iff] at oo
     exact ⟨as,δ1,outs,rfl,ok,e2,oo.1,oo.2.imp id (·.2),rfl⟩
    ·cases h
  ·cases h
theorem Qc2 {n:Nat} {flat:Bool} {B:List Nat} (kn:Kn X x n .n φ) (hf:∀ δ as δ',f δ = some (as,δ') → as.length = n ∧ ∀ i ∈ ios as,i ∈ B) (ha:CV X (e :: es) f R M) (h1:starEach (e :: es) X.env = (false,eval e X.env) :: starEach es X.env:=by rfl) (h2:(backTo pos (starEach es X.env)).any (·.1) = false:=by rfl) :
  EV X (.Call (.Name x p) (e :: es) [] pos) (Xb R flat φ f) [] (M ++ B):=by
 obtain ⟨CX,k,a,fd,ps,Fn,hn,hR,hm,hk,hb,hx⟩:=kn.ex
 obtain ⟨t,pa,q⟩:=ha
 refine ⟨_,Fn.pe kn.gd hR kn.gl hm hk hb hx pa kn.db h1 h2,fun Y F H δ σ A S z δ' e Q kk=>?_⟩
 obtain ⟨as,δ1,outs,e1,ok,e2,oo,ef,rfl⟩:=Q3K e
 obtain ⟨hl,hB⟩:=hf _ _ _ e1
 refine q Y F H δ σ A S as δ1 e1 _ fun vs F1 H1 st S1 r=>?_
 show spF X.K ps.length .n φ (vs ++ []) H1 Q E0
 rw [J7]
 refine ⟨ex R A F1 H1,as.map (Q69 δ1),Zr A as,by rw [Q3,hl,hn],S1.args ok r,z,outs,e2,fun v F2 H2 st2 S2 rv=>?_⟩
 rw [hn,← hl] at st2
 obtain ⟨st3,S3,sU⟩:=S1.behind ok r st2 S2 oo
 refine kk v _ H2 ((st.trans S1 st3).mono fun i hi=>?_) S3 (.inl ?_)
 ·rcases Q9.mp hi with z | z
  ·exact Qa _ z
  ·exact Qf _ (hB i z)
 ·have rv:Rp X.K F2 v z:=rv
  rcases ef with ef | ef
  ·subst ef
   rw [Q26]
   exact rv
  ·refine rv.flat (fun b xs h=>?_) ef
   rcases h with h | h
   ·refine .inl ?_
    have nb:¬ ∃ i ∈ R,b ∈ A i:=by
     rintro ⟨i,hi,m⟩
     have hb:∀ o,H1 b = some o → F2 b = some o:=fun o eo=>st2.f b o ((if_pos ⟨i,hi,m⟩:ex R A F1 H1 b = H1 b).trans eo)
     rcases S1.there m with ⟨ys,q⟩ | ⟨ys,q⟩ | ⟨_,ys,q⟩ | ⟨_,_,ys,q⟩ | ⟨ys,q⟩
     ·have:=hb _ q
      rcases h with h | ⟨o,h⟩ <;> rw [this] at h <;> cases h
     ·have:=hb _ q
      rcases h with h | ⟨o,h⟩ <;> rw [this] at h <;> cases h
     ·have:=hb _ q
      rcases h with h | ⟨o,h⟩ <;> rw [this] at h <;> cases h
     ·have:=hb _ q
      rcases h with h | ⟨o,h⟩ <;> rw [this] at h <;> cases h
     ·have:=hb _ q
      rcases h with h | ⟨o,h⟩ <;> rw [this] at h <;> cases h
    have q:Q1X R A F2 b = F2 b:=if_neg nb
    unfold Rd at h ⊢
    rw [q]
    exact h
   ·exact .inr h
theorem Qbs {n:Nat} {flat:Bool} {B:List Nat} (kn:Kn X x n .l φ) (hf:∀ δ as δ',f δ = some (as,δ') → as.length = n ∧ ∀ i ∈ ios as,i ∈ B) (ha:CV X (e :: es) f [] M) (h1:starEach (e :: es) X.env = (false,eval e X.env) :: starEach es X.env:=by rfl) (h2:(backTo pos (starEach es X.env)).any (·.1) = false:=by rfl) :
  NV X (.Call (.Name x p) (e :: es) [] pos) (Xb [] flat φ f) (M ++ B):=by
 obtain ⟨CX,k,a,fd,ps,Fn,hn,hR,hm,hk,hb,hx⟩:=kn.ex
 obtain ⟨t,pa,q⟩:=ha
 refine ⟨_,Fn.pe kn.gd hR kn.gl hm hk hb hx pa kn.db h1 h2,fun Y F H δ σ A S z δ' e Q kk=>?_⟩
 obtain ⟨as,δ1,outs,e1,ok,e2,oo,ef,rfl⟩:=Q3K e
 obtain ⟨hl,hB⟩:=hf _ _ _ e1
 refine q Y F H δ σ A S as δ1 e1 _ fun vs F1 H1 st S1 r=>?_
 show spF X.K ps.length .l φ (vs ++ []) H1 Q E0
 rw [J7]
 refine ⟨ex [] A F1 H1,as.map (Q69 δ1),Zr A as,by rw [Q3,hl,hn],S1.args ok r,z,outs,e2,fun v F2 H2 st2 S2 rv=>?_⟩
 rw [hn,← hl] at st2
 obtain ⟨st3,S3,sU⟩:=S1.behind ok r st2 S2 oo
 rw [Q26] at st3 S3
 obtain ⟨b,rfl,nb,fb,ob⟩:=rv
 refine kk b _ H2 ((st.trans S1 st3).mono fun i hi=>?_) S3 (Q4z st S1 nb) fb ob
 rcases Q9.mp hi with z | z
 ·exact Qa _ z
 ·exact Qf _ (hB i z)
end
end Z
namespace Z
open PySem PySem.Spec PyProof.Rows L2
section
variable {X:Cx} {pos:Pos}
def tyD:D → String
 | .none => "NoneType"
 | .bool _ => "bool"
 | .int _ => "int"
 | .str _ => "str"
 | .list _ => "list"
 | .tuple _ => "tuple"
 | .dict _ => "dict"
theorem Rp.tyx {K:PySem.W.Frag} {G H:Hp} {v:V} {d:D} (sG:Same G H) (h:Rp K G v d):TyX K H v (.type (tyD d)):=by
 cases h with
 | non=>exact .base .non
 | bl b=>exact .base (.bl b)
 | int i=>exact .base (.int i)
 | str x=>exact .base (.str x)
 | lst e _=>exact .base (.lst (sG _ _ e))
 | dic e _=>exact .fDict (sG _ _ e)
 | tup e _ =>
  rcases e with (e | ⟨o,e⟩) | ⟨o,its,n,e1,e2,_⟩
  ·exact .base (.tup (sG _ _ e))
  ·exact .fTuple (sG _ _ e)
  ·exact .kTuple e1 e2
def Qbd (T:String) (d:D):Bool:=match d with
 | .none=>T == "NoneType"
 | .bool _=>T == "bool" || T == "int"
 | .int _=>T == "int"
 | .str _=>T == "str"
 | .list _=>T == "list"
 | .tuple _=>T == "tuple"
 | .dict _=>T == "dict"
def QcX (T:String):Bool:=["int", "bool", "str", "list", "tuple", "dict"].contains T
theorem Qc6 {T:String} (hT:QcX T = true:=by rfl) (d:D):kitB (tyD d) T = some (Qbd T d):=by
 have:T ∈ ["int", "bool", "str", "list", "tuple", "dict"]:=by simpa [QcX] using hT
 simp only [Q7,Qn,or_false] at this
 rcases this with rfl | rfl | rfl | rfl | rfl | rfl <;> cases d <;> dsimp only [tyD,Qbd] <;> decide +kernel
def Q65 (T:String) (d:D):Option D:=some (.bool (Qbd T d))
theorem Q25 {T:String} {x T':Str} {a:Expr} {fa} {R M:List Nat} {p p2:Pos} (hT:QcX T = true:=by rfl) (b:Bn X x (.builtin "isinstance")) (c:Bn X T' (.type T)) (ha:EV X a fa R M)
  (h1:starEach [a,.Name T' p2] X.env = (false,eval a X.env) :: starEach [.Name T' p2] X.env:=by rfl) (h2:(backTo pos (starEach [.Name T' p2] X.env)).any (·.1) = false:=by rfl) (h3:starEach [.Name T' p2] X.env = [(false,eval (.Name T' p2) X.env)]:=by rfl) :
  EV X (.Call (.Name x p) [a,.Name T' p2] [] pos) (f1 (Q65 T) fa) [] M:=by
 obtain ⟨t,pa,q⟩:=ha
 have pT:PE X (.Name T' p2) (tC (.ty T)):=pe_bltn c.gl c.mg c.bt rfl c.nn c.db
 refine ⟨_,pe_callB call_isi b.gl b.mg b.bt (pa_cons pa (pa_cons pT pa_nil h3) h1) b.nn b.db h1 h2,fun Y F H δ σ A S z δ' e Q k=>?_⟩
 obtain ⟨d,e1,e2⟩:=Q8B e
 refine q Y F H δ σ A S d δ' e1 _ fun v F1 H1 st S1 r1=>?_
 refine ⟨v,.ty T,.type (tyD d),.type T,Qbd T d,rfl,.ty T,(r1.ex S1).tyx (Q0o S1),kit_ty (Qc6 hT d),?_⟩
 cases e2
 exact k _ F1 H1 st S1 (.inl (.bl _))
def Ku:List D → Option (List Bool)
 | []=>some []
 | .bool b :: r=>(Ku r).map (b :: ·)
 | _=>none
theorem Q2n:∀ {ds:List D} {bs:List Bool},Ku ds = some bs → ds = bs.map Qg
 | [],bs,h=>by cases h; rfl
 | d :: r,bs,h=>by
  cases d <;> simp only [Ku] at h <;> try (cases h; done)
  cases e:Ku r with
  | none=>rw [e] at h; cases h
  | some cs =>
   rw [e] at h
   cases h
   rw [Q2n e]
   rfl
theorem Rps.bools {K:PySem.W.Frag} {G:Hp}:∀ {vs:List V} {ns:List Bool},Rps K G vs (ns.map Qg) → vs = ns.map V.bl
 | _,[],.nil=>rfl
 | _,n :: ns,.cons h r=>by
  cases h
  rw [r.bools]
  rfl
def Q9V:D → Option D
 | .list ds=>(Ku ds).map fun bs=>.bool (bs.all id)
 | _=>none
theorem Q9y:Q1y X (rAll X.K) (g1 Q9V):=by
 intro Y F H δ σ A R xs ds z S r hg Q k
 obtain ⟨d,rfl,hg'⟩:=Wh hg
 clear hg
 have hg:=hg'
 obtain ⟨v,rfl,rv⟩:=r.one
 unfold Q9V at hg
 split at hg
 ·rename_i ds'
  cases e:Ku ds' with
  | none=>rw [e] at hg; cases hg
  | some ns =>
   rw [e] at hg
   cases hg
   have e2:=Q2n e
   subst e2
   obtain ⟨a,ys,rfl,h1,r1⟩:=rv.list S
   have e3:=r1.bools
   subst e3
   exact ⟨a,ns,rfl,SqL.of h1,k _ F H Stp.refl S (.bl _)⟩
 ·cases hg
def Q6L (i j:Nat) (f:List Sl → Option (List D × List Sl)):List Sl → Option Out:=fun δ=>(f δ).bind fun p=>match p.1 with
 | [a,b]=>if i < p.2.length ∧ j < p.2.length then some (.nx ((p.2.set i (.fz a)).set j (.fz b))) else none
 | _=>none
theorem QbC {io:Iom} {fr:Fr} {i j:Nat} {x y:Str} {a b:Expr} {f} {M:List Nat} {px py pt pt2:Pos} {kt k2} (hi:io i = false) (hj:io j = false) (hc:X.calm = true) (T:Tg X i x) (U:Tg X j y) (hij:i ≠ j)
  (hx:X.env.scope.names.lookup x = some .local) (hy:X.env.scope.names.lookup y = some .local) (ha:AV X [a,b] f [] M)
  (hw:swappedStores [.Tuple [.Name x px,.Name y py] kt pt] (.Tuple [a,b] k2 pt2) X.env = pure (some [x,y]):=by rfl)
  (hs:swapsWithSole [.Tuple [.Name x px,.Name y py] kt pt] (.Tuple [a,b] k2 pt2) pos.line X.env = pure false:=by rfl) :
  SV X io fr (.Assign [.Tuple [.Name x px,.Name y py] kt pt] (.Tuple [a,b] k2 pt2) pos) (Q6L i j f):=by
 obtain ⟨t,p,q⟩:=ha
 refine ⟨_,ps_par hc T.nd T.at_ U.at_ hij hx hy p hw hs,fun Y F H δ σ A hY S o e D k=>?_⟩
 unfold Q6L at e
 cases e1:f δ with
 | none=>rw [e1] at e; cases e
 | some w =>
  obtain ⟨ds,δ1⟩:=w
  rw [e1] at e
  simp only [Q1] at e
  split at e
  ·rename_i d1 d2
   split at e
   ·rename_i hl
    cases e
    refine q Y F H δ σ A S _ δ1 e1 _ fun vs F1 H1 st S1 r=>?_
    obtain ⟨v,u,rfl,rv,ru⟩:=r.two
    refine ⟨v,u,rfl,?_⟩
    have S2:=S1.putFz hl.1 (by rw [hY]; exact hi) rv.nil
    have S3:=S2.putFz (i:=j) (by simpa using hl.2) (by rw [hY]; exact hj) ru.nil
    exact k _ F1 H1 _ st.f S3
   ·cases e
  ·cases e
def Q3r (T:Tt) (f:List Sl → Option (D × List Sl)):List Sl → Option Out:=fun δ=>(f δ).bind fun p=>(Y7 T p.1 p.2).map .nx
theorem Q2Z {io:Iom} {fr:Fr} {tg e:Expr} {T:Tt} {f} {M:List Nat} (hT:∀ j ∈ tS T,io j = false) (h:EV X e f [] M) (hg:GV X tg T) (hs:swapsWithSole [tg] e pos.line X.env = pure false:=by rfl) (hw:swappedStores [tg] e X.env = pure none:=by rfl)
  (h1:(assignEach [tg] X.env).map (·.2) = [assign tg X.env]:=by rfl):SV X io fr (.Assign [tg] e pos) (Q3r T f):=by
 obtain ⟨t,p,q⟩:=h
 obtain ⟨g,pg,qg⟩:=hg
 refine ⟨_,ps_asg p pg hs hw h1,fun Y F H δ σ A hY S o e D k=>?_⟩
 unfold Q3r at e
 cases e1:f δ with
 | none=>rw [e1] at e; cases e
 | some w =>
  obtain ⟨d,δ1⟩:=w
  rw [e1] at e
  simp only [Q1] at e
  cases e2:Y7 T d δ1 with
  | none=>rw [e2] at e; cases e
  | some δ2 =>
   rw [e2] at e
   cases e
   refine q Y F H δ σ A S d δ1 e1 _ fun v F1 H1 st S1 r=>?_
   exact qg Y F1 H1 δ1 σ A (fun j hj=>by rw [hY]; exact hT j hj) S1 v d δ2 r.nil e2 _ fun σ' A' _ S2=>k _ F1 H1 A' st.f S2
mutual
theorem Q7J {K:PySem.W.Frag} {G:Hp}:∀ {n:Nat} {u:Value} {v:V} {d:D},kRp K n u = some (v,d) → RelV v u ∧ Rp K G v d
 | 0,_,_,_,h=>by unfold kRp at h; cases h
 | n + 1,u,v,d,h=>by
  unfold kRp at h
  split at h
  ·cases h; exact ⟨rfl,.non⟩
  ·cases h; exact ⟨rfl,.bl _⟩
  ·cases h; exact ⟨⟨_,rfl⟩,.int _⟩
  ·cases h; exact ⟨⟨_,rfl⟩,.str _⟩
  ·rename_i a
   split at h
   ·rename_i dd its m sl e
    split at h
    ·rename_i hz
     cases e2:Q8K K n its.toList with
     | none=>rw [e2] at h; cases h
     | some p =>
      obtain ⟨vs,ds⟩:=p
      rw [e2] at h
      cases h
      obtain ⟨h1,h2⟩:=Q8j (G:=G) e2
      exact ⟨rfl,.tup (.inr ⟨_,its,m,e,rfl,rfl,hz,h1⟩) h2⟩
    ·cases h
   ·cases h
  ·cases h
theorem Q8j {K:PySem.W.Frag} {G:Hp}:∀ {n:Nat} {us:List Value} {vs:List V} {ds:List D},Q8K K n us = some (vs,ds) → Vals vs us ∧ Rps K G vs ds
 | 0,_,_,_,h=>by unfold Q8K at h; cases h
 | n + 1,us,vs,ds,h=>by
  unfold Q8K at h
  split at h
  ·cases h; exact ⟨.nil,.nil⟩
  ·rename_i u r
   split at h
   ·rename_i p q e1 e2
    obtain ⟨v1,d1⟩:=p
    obtain ⟨v2,d2⟩:=q
    cases h
    obtain ⟨h1,h2⟩:=Q7J (G:=G) e1
    obtain ⟨h3,h4⟩:=Q8j (G:=G) e2
    exact ⟨.cons h1 h3,.cons h2 h4⟩
   ·cases h
end
structure Gc (X:Cx) (x:Str) (d:D):Prop where
 ex:∃ u v,X.mg x = some u ∧ kRp X.K 40 u = some (v,d)
 db:(x == ("__debug__":Str)) = false
theorem QdP {x:Str} {d:D} (hg:Gl X x) (c:Gc X x d):EV X (.Name x pos) (Jq d) [] []:=by
 obtain ⟨u,v,h1,h2⟩:=c.ex
 exact Q2h (pe_glob hg h1 (Q7J (G:=fun _=>none) h2).1 c.db) fun G=>(Q7J h2).2
end
end Z
namespace Z
open PySem PySem.Spec PyProof.Rows L2 RT
section
variable {prog:Program} {w:World} {A:Around} {E:Value → Shared → Prop} {s:Shared}
theorem Qac {R:Result → Shared → Prop} {it l S:Addr} {items:Array Value} (hh:A.handled = none) (hit:s.heap.IsRevIter it l ((items.size:Int) - 1)) (hl:s.heap.IsList l items) (hne:l ≠ it) (hn:items.size ≤ sizeLine)
  (hS:s.heap.get? S = some { cls:=.type "list",data:=.seq #[] }) (hSi:S ≠ it) (hSl:S ≠ l)
  (hR:∀ (h':Heap) (tk:Nat) (acc:Array Value) (c:Nat),(∀ b o,b ≠ S → b ≠ it → s.heap.get? b = some o → h'.get? b = some o) → h'.get? S = some { cls:=.type "list",dict:=none,data:=.seq acc c,slots:=#[] } → ItemsOf (fun i v=>items[items.size - 1 - i]? = some v) acc items.size → R (.ok (.ret .none)) { s with heap:=h',toks:=tk }) :
  wpAny (model prog w) A.in1 (Builtin.«list.__init__» ⟨[.ref S,.ref it],[]⟩)
   (fun fin s'=>match fin with | .done f=>R (.ok f) s' | .again c'=>c'.quiet = true ∧ codeAny (model prog w) A c' R s') (fun e s'=>R (.error e) s') s:=by
 have W:=(Walks.listRev (prog:=prog) (w:=w) (A:=A.in1) hh it l hne items).toS
 show wpAny _ A.in1 (do let old ← Builtin.List.listItems (.ref S); Builtin.List.listUpdate (.ref S) (fun _=>#[]); letGo old.toList.reverse; Builtin.List.listExtendWith (.ref S) (.ref it) .none) _ _ s
 refine wpAny_bind ?_
 unfold Builtin.List.listItems
 refine wpAny_bind (wpAny_seqItems hS rfl (wpAny_pure ?_))
 show wpAny _ A.in1 (updateSeq S (fun _=>#[]) >>= fun _=>letGo (#[]:Array Value).toList.reverse >>= fun _=>Builtin.List.listExtendWith (.ref S) (.ref it) .none) _ _ s
 refine wpAny_bind (wpAny_updateSeq hS rfl ?_)
 have hS₂:=Heap.get?_update_self (Obj.mapSeq (fun _=>(#[]:Array Value))) hS rfl
 have oth:∀ b o,b ≠ S → s.heap.get? b = some o → (s.heap.update S (Obj.mapSeq (fun _=>(#[]:Array Value)))).get? b = some o :=
  fun b o hb e=>(Heap.get?_update_other _ _ (Ne.symm hb)).trans e
 refine wpAny_bind (wpAny_letGo ?_)
 generalize hs1:({ s with heap:=s.heap.update S (Obj.mapSeq (fun _=>(#[]:Array Value))) }:Shared) = s1
 have hit1:s1.heap.IsRevIter it l ((items.size:Int) - 1):=by
  subst hs1
  exact hit.at fun o e=>oth it o (Ne.symm hSi) e
 have hl1:s1.heap.IsList l items:=by
  subst hs1
  obtain ⟨o,e,c⟩:=hl
  exact ⟨o,oth l o (Ne.symm hSl) e,c⟩
 have hT:s1.TypeIs (.ref it) "list_reverseiterator":=Heap.IsRevIter.typeIs hit1
 have hS₁:s1.heap.get? S = some { cls:=.type "list",data:=.seq #[] }:=by
  subst hs1
  exact hS₂
 have oth1:∀ b o,b ≠ S → s.heap.get? b = some o → s1.heap.get? b = some o:=by
  subst hs1
  exact oth
 have hSf:S ∉ [it,l]:=by simp only [Q7,Qn,or_false,not_or]; exact ⟨hSi,hSl⟩
 have es:∀ h' tk,({ s with heap:=h',toks:=tk }:Shared) = { s1 with heap:=h',toks:=tk }:=by
  subst hs1
  intro h' tk
  rfl
 have h1:Builtin.List.listSameRef (.ref S) (.ref it) = false:=by simp [Builtin.List.listSameRef,hSi]
 unfold Builtin.List.listExtendWith
 refine wpAny_bind (wpAny_typeOf hT ?_)
 rw [if_neg (by rw [h1]; decide)]
 refine wpAny_bind (wpAny_pyIter_revIter hit1 ?_)
 refine wpAny_bind (wpAny_holding ?_)
 unfold Builtin.List.listLengthHint
 refine wpAny_bind (wpAny_specialOf hT nolen_lri ?_)
 show wpAny _ A.in1 (specialOf (Value.ref it) (Str.ofString "__length_hint__") >>= _) _ _ _
 refine wpAny_bind (wpAny_specialOf hT hint_lri ?_)
 generalize hid:("list_reverseiterator.__length_hint__":String) = id0
 wp_delta
 rw [show splitId id0 = some ("list_reverseiterator", "__length_hint__") from by subst hid; decide +kernel]
 subst hid
 refine wpAny_bind (wpAny_isInstance (b:=true) hT (by rw [isSubtype_type]; kernel_rfl) ?_)
 refine wpAny_pure ?_
 rw [if_neg (by decide)]
 have e0:((items.size:Nat):Int) - 1 - ((0:Nat):Int) = (items.size:Int) - 1:=by omega
 refine wpAny_pure ⟨plainId_quiet F.plain_extend_loop _,codeAny_extend_loopS W hn _ hSf _ items.size 0 _ _ _ rfl (Ja _) ⟨Ja _,by rw [e0]; exact hit1,hl1⟩ hS₁ (ItemsOf.nil _) fun s' acc' c' hm hS' hacc=>?_⟩
 rw [Moved.eq_with hm,← es]
 refine hR s'.heap s'.toks acc' c' (fun b o hb hb2 e=>hm.heap b o (fun hmem=>?_) (oth1 b o hb e)) hS' hacc
 rcases Q7.mp hmem with e' | hmem
 ·exact hb e'
 ·exact hb2 (Qj.mp hmem)
theorem Q4x {it l:Addr} {items:Array Value} {Q:Value → Shared → Prop} (hh:A.handled = none) (hit:s.heap.IsRevIter it l ((items.size:Int) - 1)) (hl:s.heap.IsList l items) (hne:l ≠ it) (hn:items.size ≤ sizeLine)
  (hQ:∀ (h':Heap) (tk:Nat) (acc:Array Value) (c:Nat),(∀ b o,b ≠ it → s.heap.get? b = some o → h'.get? b = some o) → h'.get? s.heap.objs.size = some { cls:=.type "list",dict:=none,data:=.seq acc c,slots:=#[] } → ItemsOf (fun i v=>items[items.size - 1 - i]? = some v) acc items.size →
   Q (.ref s.heap.objs.size) { s with heap:=h',toks:=tk }) :
  wpAny (model prog w) A (call (.type "list") [.ref it]) Q E s:=by
 obtain ⟨oi,hoi,_⟩:=id hit
 obtain ⟨ol,hol,_⟩:=id hl
 refine callType_codes (Q₁:=fun obj s₁=>obj = .ref s.heap.objs.size ∧ s₁ = { s with heap:=s.heap.push { cls:=.type "list",data:=.seq #[] } }) F.called_list (F.typeCall_list_1 _) F.entry_list_init
  (code_list_new _ ⟨rfl,rfl⟩) fun obj s₁ h₁=>?_
 obtain ⟨rfl,rfl⟩:=h₁
 have hS:(s.heap.push { cls:=.type "list",data:=.seq #[] }).get? s.heap.objs.size = some { cls:=.type "list",data:=.seq #[] }:=Heap.get?_push_size _ rfl
 refine ⟨⟨_,hS,rfl⟩,F.args_list_init_2 _ _,Qac (A:=A.in1) (s:={ s with heap:=s.heap.push { cls:=.type "list",data:=.seq #[] } }) hh (hit.at fun o e=>Heap.get?_push_of_some _ e) (hl.push _) hne hn hS (Qt (Heap.lt_size hoi)) (Qt (Heap.lt_size hol)) fun h' tk acc c hk hS' hacc=>?_⟩
 exact ⟨rfl,hQ h' tk acc c (fun b o hb e=>hk b o (J9 (Heap.lt_size e)) hb (Heap.get?_push_of_some _ e)) hS' hacc⟩
end
def Qbm (K:PySem.W.Frag) (te:TE):TE:=fun σ H Q=>te σ H fun v H1=>∃ (a:Addr) (xs:List V),v = .ref a ∧ SqL K H1 a xs ∧ ∀ q,H1 q = none → Q (.ref q) (upd H1 q (.lst xs.reverse))
section
variable {X:Cx}
theorem Q9d {e:Expr} {te:TE} {p p2 pos pos2:Pos} (hc:X.calm = true) (hg:Gl X "list") (hm:X.mg "list" = none) (hg2:Gl X "reversed") (hm2:X.mg "reversed" = none) (he:PE X e te)
  (hs:starEach [e] X.env = (false,eval e X.env) :: starEach [] X.env:=by rfl)
  (hs2:starEach [.Call (.Name "reversed" p2) [e] [] pos2] X.env = (false,eval (.Call (.Name "reversed" p2) [e] [] pos2) X.env) :: starEach [] X.env:=by rfl) :
  PE X (.Call (.Name "list" p) [.Call (.Name "reversed" p2) [e] [] pos2] [] pos) (Qbm X.K te):=by
 refine ⟨fun pins s σ H Q I h=>?_⟩
 refine Call_ (ld_blt I hg hm boot_list (PyProof.Rows.callWith_type1 (args_cons (Call_ (ld_blt I hg2 hm2 PyProof.Rows.boot_reversed (PyProof.Rows.callWith_type1 (args_cons (thn (he.run pins s σ H _ I h) fun u s1 ⟨v,H1,I1,r1,q1⟩=>args_nil ?_) hs) hs rfl))) hs2) hs2 rfl))
 obtain ⟨a,xs,ev,hq,q⟩:=q1
 subst ev
 obtain rfl:u = Value.ref a:=r1
 obtain ⟨its,rv,p',hz⟩:=I1.list hq
 refine call_reversed_list p'.isList (args_nil ?_)
 have k0:∀ b o,s1.heap.get? b = some o → (s1.heap.push (revObj a ((its.toArray.size:Int) - 1))).get? b = some o:=fun b o e=>Heap.get?_push_of_some _ e
 have I2:Inv X pins σ H1 { s1 with heap:=s1.heap.push (revObj a ((its.toArray.size:Int) - 1)) }:=I1.kept (t':=s1.toks) k0
 obtain ⟨f0,f1,f2,f3,f4,f5⟩:=I1.fpOk (H':=H1) (b:=s1.heap.objs.size) (J1 _) (I1.hok.fresh (J1 _))
 have hl:=p'.isList
 obtain ⟨ol,hol,_⟩:=id hl
 have hne:a ≠ s1.heap.objs.size:=J9 (Heap.lt_size hol)
 have hn:its.toArray.size ≤ sizeLine:=by rw [List.size_toArray,← rv.length]; exact hz
 refine Q4x (s:={ s1 with heap:=s1.heap.push (revObj a ((its.toArray.size:Int) - 1)) }) (I1.ok.hd hc) ⟨_,Heap.get?_push_size _ rfl,rfl,rfl⟩ (hl.push _) hne hn fun h' tk acc c hk hS hi=>?_
 have hL:Inv X pins σ (upd H1 (s1.heap.push (revObj a ((its.toArray.size:Int) - 1))).objs.size (.lst xs.reverse)) { s1 with heap:=(s1.heap.push (revObj a ((its.toArray.size:Int) - 1))).push { cls:=.type "list",dict:=none,data:=.seq acc c,slots:=#[] } } :=
  I2.laid (t':=s1.toks) (fun b o e=>Heap.get?_push_of_some _ e) (J1 _) (show ObjOk X.prog X.w _ _ _ (.lst xs.reverse) from ⟨by rw [List.length_reverse]; exact hz,acc.toList,c,vals_rev rv hi,by rw [Array.toArray_toList]; exact Heap.get?_push_size _ rfl⟩)
 have hf:H1 (s1.heap.push (revObj a ((its.toArray.size:Int) - 1))).objs.size = none:=I2.hok.fresh (J1 _)
 have hne2:s1.heap.objs.size ≠ (s1.heap.push (revObj a ((its.toArray.size:Int) - 1))).objs.size:=J9 (Heap.lt_size (Heap.get?_push_size s1.heap (o:=revObj a ((its.toArray.size:Int) - 1)) rfl))
 have I4:Inv X pins σ (upd H1 (s1.heap.push (revObj a ((its.toArray.size:Int) - 1))).objs.size (.lst xs.reverse)) { s1 with heap:=h',toks:=tk }:=by
  refine Inv.turned (s:={ s1 with heap:=(s1.heap.push (revObj a ((its.toArray.size:Int) - 1))).push { cls:=.type "list",dict:=none,data:=.seq acc c,slots:=#[] } }) (h':=h') (t':=tk) (it:=s1.heap.objs.size) hL (fun b o hb e=>?_) (by rw [upd_ne hne2]; exact f0) f1 f3 f4 f5
  by_cases cq:b = (s1.heap.push (revObj a ((its.toArray.size:Int) - 1))).objs.size
  ·subst cq
   have e:=(Heap.get?_push_size (s1.heap.push (revObj a ((its.toArray.size:Int) - 1))) (o:={ cls:=.type "list",dict:=none,data:=.seq acc c,slots:=#[] }) rfl).symm.trans e
   cases e
   exact hS
  ·have hlt:=Heap.lt_size e
   have e':(s1.heap.push (revObj a ((its.toArray.size:Int) - 1))).get? b = some o:=by
    rcases Heap.get?_push_cases e with z | z
    ·exact absurd z.1 cq
    ·exact z
   exact hk b o hb e'
 exact ⟨.ref _,_,I4,rfl,q _ hf⟩
end
end Z
namespace Z
open PySem PySem.Spec PyProof.Rows L2
section
variable {K:PySem.W.Frag} {Y:Fx} {F F' H H':Hp} {δ:List Sl} {σ:L2.St} {A:Nat → List Addr} {i:Nat}
theorem SR.chgS (S:SR K Y F H δ σ A) (hi:i < δ.length) {s':Sl} (hH:∀ a,a ∉ A i → H' a = H a) (h:Q00 K F H' s' (jn σ[i]?) (A i)) (hob:∀ c fs,s' ≠ Sl.ob c fs:=by intro _ _; simp) (hno:s' ≠ Sl.no:=by simp):SR K Y F H' (δ.set i s') σ A:=by
 refine ⟨by rw [Qk]; exact S.len,fun j t e=>?_,fun j e=>?_,S.dis,S.hid,S.new,fun b x e=>?_,S.fix,S.ioA,fun a x e n=>?_,S.nw,S.f0,S.lio,S.ob_set hi hob (fun j c a ha=>hH a fun z=>c (S.dis j i a ha z)),S.vno_set hi hno⟩
 ·by_cases c:j = i
  ·subst c
   rw [Qh hi] at e
   cases e
   exact h
  ·rw [Qc (Ne.symm c)] at e
   refine (S.slot j t e).mono (Same.refl _) fun a ha=>hH a fun z=>c (S.dis j i a ha z)
 ·by_cases c:j = i
  ·subst c
   rw [Qh hi] at e
   cases e
  ·rw [Qc (Ne.symm c)] at e
   exact S.out j e
 ·rw [hH]
  ·exact S.sub b x e
  ·intro z
   rw [S.hid i b z] at e
   cases e
 ·rw [hH]
  ·exact S.kp a x e n
  ·intro z
   cases hio:Y.lt i with
   | false =>
    rw [S.new i a z hio] at e
    cases e
   | true =>
    rw [(S.fix i hio).2] at z
    exact n i hio z
theorem Stp.chgS {M:List Nat} (hM:i ∈ M) (hH:∀ a,a ∉ A i → H' a = H a):Stp A M F H F H' :=
 ⟨Same.refl _,fun a e n=>absurd e n,fun a x e n=>by rw [hH a (n i hM)]; exact e⟩
def Zp (i:Nat) (δ:List Sl):Option (List Int × Int × Int):=match δ[i]? with
 | some (.dk cs m n)=>some (cs,m,n)
 | _=>none
theorem Q51 {w:List Int × Int × Int} (h:Zp i δ = some w):δ[i]? = some (.dk w.1 w.2.1 w.2.2):=by
 unfold Zp at h
 split at h
 ·rename_i e; cases h; exact e
 ·cases h
theorem SR.dk (S:SR K Y F H δ σ A) {w:List Int × Int × Int} (h:Zp i δ = some w):∃ p q,σ[i]? = some (some (.ref p)) ∧ A i = [p,q] ∧ H p = some (.lst [.ref q,.int w.2.1,.int w.2.2]) ∧ H q = some (.lst (w.1.map V.int)):=by
 obtain ⟨p,q,e1,e2,h1,h2⟩:=S.slot i _ (Q51 h)
 exact ⟨p,q,Vb e1,e2,h1,h2⟩
theorem SR.dkI (S:SR K Y F H δ σ A) {w:List Int × Int × Int} (h:Zp i δ = some w):i < δ.length:=(Qi.mp (Q51 h)).1
theorem Q9B {w:List Int} {H:Hp} {p q:Addr} {m n:Int} (h1:H p = some (.lst [.ref q,.int m,.int n])) (h2:H q = some (.lst (w.map V.int))):p ≠ q:=by
 intro e
 subst e
 rw [h1] at h2
 have h3:[V.ref p,V.int m,V.int n] = w.map V.int:=by
  injection h2 with h2
  injection h2
 cases w with
 | nil=>cases h3
 | cons a b =>
  rw [Qm] at h3
  injection h3 with h4
  cases h4
end
section
variable {X:Cx} {x:Str} {i:Nat} {pos p1 p2 apos:Pos}
def Q9G (i:Nat):List Sl → Option (D × List Sl):=fun δ=>(Zp i δ).map fun w=>(.int w.2.1,δ)
def Q3H (i:Nat):List Sl → Option (D × List Sl):=fun δ=>(Zp i δ).map fun w=>(.int w.2.2,δ)
theorem QcC {j} {p3} (hu:X.A.units + 1 < cLine) (n:Nm X i x) (hs:PlainIx (.Constant (.int 1) j p3):=by intro _ _; rfl):EV X (.Subscript (.Name x p1) (.Constant (.int 1) j p3) pos) (Q9G i) [] []:=by
 refine ⟨_,pe_ix (Q9a hu) n.pe pe_int hs,fun Y F H δ σ A S z δ' e Q k=>?_⟩
 unfold Q9G at e
 cases e0:Zp i δ with
 | none=>rw [e0] at e; cases e
 | some w =>
  rw [e0] at e
  cases e
  obtain ⟨p,q,s1,s2,s3,s4⟩:=S.dk e0
  exact ⟨.ref p,s1,.inl (.inl ⟨p,_,1,.int w.2.1,rfl,rfl,SqL.of s3,rfl,k _ F H Stp.refl S (.inl (.int _))⟩)⟩
theorem Q7B {j} {p3} (hu:X.A.units + 1 < cLine) (n:Nm X i x) (hs:PlainIx (.Constant (.int 2) j p3):=by intro _ _; rfl):EV X (.Subscript (.Name x p1) (.Constant (.int 2) j p3) pos) (Q3H i) [] []:=by
 refine ⟨_,pe_ix (Q9a hu) n.pe pe_int hs,fun Y F H δ σ A S z δ' e Q k=>?_⟩
 unfold Q3H at e
 cases e0:Zp i δ with
 | none=>rw [e0] at e; cases e
 | some w =>
  rw [e0] at e
  cases e
  obtain ⟨p,q,s1,s2,s3,s4⟩:=S.dk e0
  exact ⟨.ref p,s1,.inl (.inl ⟨p,_,2,.int w.2.2,rfl,rfl,SqL.of s3,rfl,k _ F H Stp.refl S (.inl (.int _))⟩)⟩
def Q9f (i:Nat):List Sl → Option (Bool × List Sl):=fun δ=>(Zp i δ).bind fun w=>(eqD (.list (w.1.map Q0)) (.list [])).map fun b=>(b,δ)
theorem Qd9 {j} {p3 p4} (hu:X.A.units + 65 < cLine) (n:Nm X i x) (hs:PlainIx (.Constant (.int 0) j p3):=by intro _ _; rfl) (hm:behindInMarks .Eq (.List [] p4) = false:=by rfl):TV X (.Compare (.Subscript (.Name x p1) (.Constant (.int 0) j p3) p2) [.Eq] [.List [] p4] pos) (Q9f i) []:=by
 refine ⟨_,pt_cmpR (Q0j hu).op (pe_ix (Q9a (by omega)) n.pe pe_int hs) (pe_lst pa_nil) hm,fun Y F H δ σ A S z δ' e Q k=>?_⟩
 unfold Q9f at e
 cases e0:Zp i δ with
 | none=>rw [e0] at e; cases e
 | some w =>
  rw [e0] at e
  simp only [Q1] at e
  cases e1:eqD (.list (w.1.map Q0)) (.list []) with
  | none=>rw [e1] at e; cases e
  | some b =>
   rw [e1] at e
   cases e
   obtain ⟨p,q,s1,s2,s3,s4⟩:=S.dk e0
   refine ⟨.ref p,s1,.inl (.inl ⟨p,_,0,.ref q,rfl,rfl,SqL.of s3,rfl,?_⟩)⟩
   refine ⟨Ja _,fun c hc=>?_⟩
   have ne:q ≠ c:=fun z=>by rw [z] at s4; rw [s4] at hc; cases hc
   refine ⟨upd H c (.lst []),_,_,z,Same.refl _,.lst (by rw [upd_ne ne]; exact s4) (Q2i _),.lst upd_same .nil,e1,?_⟩
   exact ⟨z,rfl,k F _ (Stp.laidO hc) (S.laidO hc)⟩
def Q40 (i:Nat):List Sl → Option (D × List Sl):=fun δ=>(Zp i δ).bind fun w=>(w.1[w.1.length - 1]?).map fun d=>(.int d,δ.set i (.dk w.1.dropLast w.2.1 w.2.2))
theorem Qb0 {j} {p3} (hu:X.A.units + 1 < cLine) (n:Nm X i x) (hs:PlainIx (.Constant (.int 0) j p3):=by intro _ _; rfl) (m:Mc0 X (.Subscript (.Name x p1) (.Constant (.int 0) j p3) p2) "pop" apos pos) :
  EV X (.Call (.Attribute (.Subscript (.Name x p1) (.Constant (.int 0) j p3) p2) "pop" apos) [] [] pos) (Q40 i) [] [i]:=by
 refine ⟨_,pe_bm0 PySem.F.plainAttrs_list PySem.F.slot_list_pop PySem.F.type_list_pop mt_pop (pe_ix (Q9a hu) n.pe pe_int hs) m.base m.line,fun Y F H δ σ A S z δ' e Q k=>?_⟩
 unfold Q40 at e
 cases e0:Zp i δ with
 | none=>rw [e0] at e; cases e
 | some w =>
  rw [e0] at e
  simp only [Q1] at e
  cases e1:w.1[w.1.length - 1]? with
  | none=>rw [e1] at e; cases e
  | some d =>
   rw [e1] at e
   cases e
   obtain ⟨p,q,s1,s2,s3,s4⟩:=S.dk e0
   have hpq:=Q9B s3 s4
   refine ⟨.ref p,s1,.inl (.inl ⟨p,_,0,.ref q,rfl,rfl,SqL.of s3,rfl,?_⟩)⟩
   refine ⟨tyL s4,q,_,.int d,rfl,rfl,s4,by rw [Q3,Qo,e1]; rfl,?_⟩
   have out:∀ a,a ∉ A i → upd H q (.lst (w.1.map V.int).dropLast) a = H a:=fun a ha=>upd_ne fun z=>ha (by rw [s2,z]; simp)
   refine k _ F _ (Stp.chgS (i:=i) (by simp) out) (S.chgS (S.dkI e0) out ⟨p,q,by rw [s1]; rfl,s2,?_,?_⟩) (.inl (.int _))
   ·rw [upd_ne hpq]
    exact s3
   ·rw [upd_same,List.map_dropLast]
def Q2t (i:Nat) (f:List Sl → Option (D × List Sl)):List Sl → Option (D × List Sl):=fun δ=>(Zp i δ).bind fun _=>(f δ).bind fun p=>match p.1 with
 | .int v=>(Zp i p.2).bind fun w=>if w.1.length < sizeLine then some (.none,p.2.set i (.dk (w.1 ++ [v]) w.2.1 w.2.2)) else none
 | _=>none
theorem Q8G {j} {p3} {e:Expr} {f} (hu:X.A.units + 1 < cLine) (n:Nm X i x) (hs:PlainIx (.Constant (.int 0) j p3):=by intro _ _; rfl) (h:EV X e f [] []) (m:Mc X (.Subscript (.Name x p1) (.Constant (.int 0) j p3) p2) "append" apos e [] pos) :
  EV X (.Call (.Attribute (.Subscript (.Name x p1) (.Constant (.int 0) j p3) p2) "append" apos) [e] [] pos) (Q2t i f) [] [i]:=by
 obtain ⟨t,pe,q⟩:=h
 refine ⟨_,pe_bm PySem.F.plainAttrs_list PySem.F.slot_list_append PySem.F.type_list_append mt_append (pe_ix (Q9a hu) n.pe pe_int hs) (pa_cons pe pa_nil m.star) m.base m.few m.line m.star m.plain,fun Y F H δ σ A S z δ' e Q k=>?_⟩
 unfold Q2t at e
 cases e0:Zp i δ with
 | none=>rw [e0] at e; cases e
 | some w0 =>
  rw [e0] at e
  simp only [Q1] at e
  cases e1:f δ with
  | none=>rw [e1] at e; cases e
  | some u =>
   obtain ⟨d,δ1⟩:=u
   rw [e1] at e
   simp only [Q1] at e
   split at e
   ·rename_i v
    cases e2:Zp i δ1 with
    | none=>rw [e2] at e; cases e
    | some w =>
     rw [e2] at e
     simp only [Q1] at e
     split at e
     ·rename_i hz
      cases e
      obtain ⟨p,q0,s1,s2,s3,s4⟩:=S.dk e0
      refine ⟨.ref p,s1,.inl (.inl ⟨p,_,0,.ref q0,rfl,rfl,SqL.of s3,rfl,?_⟩)⟩
      refine ⟨tyL s4,?_⟩
      refine q Y F H δ σ A S _ δ1 e1 _ fun y F1 H1 st S1 r=>?_
      obtain ⟨p',q',t1,t2,t3,t4⟩:=S1.dk e2
      have:q' = q0:=by
       rw [s2] at t2
       injection t2 with _ t2
       injection t2 with t2
       exact t2.symm
      subst this
      rw [r.int]
      have hpq:=Q9B t3 t4
      refine ⟨q',_,.int v,rfl,rfl,t4,by rw [Q3]; exact hz,?_⟩
      have out:∀ a,a ∉ A i → upd H1 q' (.lst (w.1.map V.int ++ [.int v])) a = H1 a:=fun a ha=>upd_ne fun z=>ha (by rw [t2,z]; simp)
      refine k _ F1 _ (((st.mono fun _ h=>h).trans S1 (Stp.chgS (M:=[i]) (i:=i) (by simp) out)).mono fun j hj=>by simpa using hj) (S1.chgS (S1.dkI e2) out ⟨p',q',by rw [t1]; rfl,t2,?_,?_⟩) (.inl .non)
      ·rw [upd_ne hpq]
       exact t3
      ·rw [upd_same,Jg]
       rfl
     ·cases e
   ·cases e
def Q98 (i:Nat) (f:List Sl → Option (D × List Sl)):List Sl → Option Out:=fun δ=>(f δ).bind fun p=>match p.1 with
 | .int v=>(Zp i p.2).map fun w=>.nx (p.2.set i (.dk w.1 w.2.1 v))
 | _=>none
theorem Qdx {io:Iom} {fr:Fr} {j} {p3} {v:Expr} {fv} {M:List Nat} {p1 tpos:Pos} (hu:X.A.units + 1 < cLine) (n:Nm X i x) (hv:EV X v fv [] M) (c:Pc X (.Name x p1) (.Constant (.int 2) j p3) v tpos pos.line) :
  SV X io fr (.Assign [.Subscript (.Name x p1) (.Constant (.int 2) j p3) tpos] v pos) (Q98 i fv):=by
 obtain ⟨tv,pv,qv⟩:=hv
 refine ⟨_,ps_asg pv (pg_sub n.pe pe_int (Qcu hu) c.as) c.sw c.st c.ea,fun Y F H δ σ A hY S o e D k=>?_⟩
 unfold Q98 at e
 cases e1:fv δ with
 | none=>rw [e1] at e; cases e
 | some u =>
  obtain ⟨d,δ1⟩:=u
  rw [e1] at e
  simp only [Q1] at e
  split at e
  ·rename_i v'
   cases e2:Zp i δ1 with
   | none=>rw [e2] at e; cases e
   | some w =>
    rw [e2] at e
    cases e
    refine qv Y F H δ σ A S _ δ1 e1 _ fun y F1 H1 st S1 r=>?_
    obtain ⟨p,q,s1,s2,s3,s4⟩:=S1.dk e2
    refine ⟨.ref p,s1,?_⟩
    rw [r.int]
    have hpq:=Q9B s3 s4
    refine .inl ⟨p,_,2,2,rfl,rfl,s3,rfl,?_⟩
    have out:∀ a,a ∉ A i → upd H1 p (.lst ([V.ref q,.int w.2.1,.int w.2.2].set 2 (.int v'))) a = H1 a:=fun a ha=>upd_ne fun z=>ha (by rw [s2,z]; simp)
    refine k σ F1 _ A st.f (S1.chgS (S1.dkI e2) out ⟨p,q,by rw [s1]; rfl,s2,?_,?_⟩)
    ·rw [upd_same]
     rfl
    ·rw [upd_ne (Ne.symm hpq)]
     exact s4
  ·cases e
end
end Z
namespace Z
open PySem PySem.Spec PyProof.Rows L2
def Yp (ns:List Int):List Int:=(ns.take 63).reverse
def Q3C (ns:List Int):Int:=(Yp ns).sum % 2147483629 + 48271 * (Yp ns).length
theorem Qea {α:Type} (xs:List α):Xi xs none (some 63) = xs.take 63:=by
 unfold Xi
 rw [show HT.sIx xs.length 0 none = 0 from rfl,List.drop_zero,Nat.sub_zero]
 have h:HT.sIx xs.length xs.length (some 63) = min 63 xs.length:=by
  unfold HT.sIx
  simp
  try omega
 rw [h]
 by_cases c:xs.length ≤ 63
 ·rw [Nat.min_eq_right c,J6 (J1 _),J6 c]
 ·rw [Nat.min_eq_left (by omega)]
section
variable {X:Cx} {x:Str} {i:Nat} {pos:Pos}
def Q62 (i:Nat):List Sl → Option (D × List Sl):=fun δ=>match δ[i]? with
 | some (.scr ns)=>some (.list ((Yp ns).map Q0),δ)
 | _=>none
theorem Q9g {p p2 pos2 p3 p4 p5 p6:Pos} {j} (hc:X.calm = true) (hg:Gl X "list") (hm:X.mg "list" = none) (hg2:Gl X "reversed") (hm2:X.mg "reversed" = none) (n:Nm X i x)
  (hs:starEach [.Subscript (.Name x p3) (.Slice none (some (.Constant (.int 63) j p6)) none p4) p5] X.env = (false,eval (.Subscript (.Name x p3) (.Slice none (some (.Constant (.int 63) j p6)) none p4) p5) X.env) :: starEach [] X.env)
  (hs2:starEach [.Call (.Name "reversed" p2) [.Subscript (.Name x p3) (.Slice none (some (.Constant (.int 63) j p6)) none p4) p5] [] pos2] X.env = (false,eval (.Call (.Name "reversed" p2) [.Subscript (.Name x p3) (.Slice none (some (.Constant (.int 63) j p6)) none p4) p5] [] pos2) X.env) :: starEach [] X.env) :
  NV X (.Call (.Name "list" p) [.Call (.Name "reversed" p2) [.Subscript (.Name x p3) (.Slice none (some (.Constant (.int 63) j p6)) none p4) p5] [] pos2] [] pos) (Q62 i) []:=by
 refine ⟨_,Q9d hc hg hm hg2 hm2 (pe_slice sl_list n.pe po_none (po_some pe_int)) hs hs2,fun Y F H δ σ A S z δ' e Q k=>?_⟩
 unfold Q62 at e
 split at e
 ·rename_i ns e0
  cases e
  obtain ⟨e1,a,e2,e3⟩:=S.slot i _ e0
  refine ⟨.ref a,Vb e2,63,rfl,a,ns.map V.int,rfl,S.sub.seq e3,fun b hb=>?_⟩
  have ec:cutV (ns.map V.int) none (some 63) = (ns.take 63).map V.int:=by
   show Xi (ns.map V.int) none (some 63) = _
   rw [Qea,List.map_take]
  refine ⟨b,_,rfl,.inl (.inl upd_same),fun c hc2=>?_⟩
  rw [ec] at hc2 ⊢
  rw [← List.map_reverse]
  have hcb:H c = none:=by
   by_cases z:c = b
   ·subst z
    exact hb
   ·rw [upd_ne z] at hc2
    exact hc2
  have S1:=S.laidO (o:=.lst ((ns.take 63).map V.int)) hb
  have S2:=S1.laidO (p:=c) (o:=.lst ((ns.take 63).reverse.map V.int)) hc2
  have st:Stp A [] F H F (upd (upd H b (.lst ((ns.take 63).map V.int))) c (.lst ((ns.take 63).reverse.map V.int))) :=
   Y3 S1 (Stp.laidO hb) (Stp.laidO hc2)
  exact k c F _ st S2 hcb (S.sub.free hcb) ⟨_,upd_same,Q2i _⟩
 ·cases e
end
def QcW (K:PySem.W.Frag):Sp:=fun us H Q _=>∃ (u:V) (F:Hp) (ns:List Int),us = [u] ∧ Same F H ∧ (∃ a,u = .ref a ∧ SqL K F a (ns.map V.int)) ∧
 ∀ p q F' H',Stp (fun _=>[]) [] F H F' H' → Same F' H' → H p = none → H q = none → F' p = none → F' q = none → p ≠ q → H' p = some (.lst [.ref q,.int (Q3C ns),.int 0]) → H' q = some (.lst ((Yp ns).map V.int)) → Q (.ref p) H'
section
variable {P:Program} {w:World} {K:PySem.W.Frag} {mg:Str → Option Value} {base:Heap} {CX:CXT} {k:Nat} {f:Addr} {fd:FuncData} {x y:Str}
theorem Qbn {qual:Str} {st:Stmt} {nm:Str} {s1:Stmt} {e1 e2:Expr} {f1:List Sl → Option (D × List Sl)} {p1 p2 p3:Pos} (Fu:Fun K nm qual st f fd) (S:FnScope [x,y] [x] (defScope st)) (hbd:defBody st = [s1,.Return (some (.List [.Name y p1,e1,e2] p2)) p3])
  (hf:∀ ns,f1 [.scr ns,.ow (.list ((Yp ns).map Q0))] = some (.int (Q3C ns),[.scr ns,.ow (.list ((Yp ns).map Q0))]))
  (body:∀ (cd:Value) (A:Around) (out:List Env) (s:Shared) (G:Hp) (E:XK),A.guards = some [] → Room k (A.deeper (envOfC qual (defScope st) s.heap.objs.size f cd)) →
   SV (cxOf CX P w K mg base [x,y] qual (defScope st) f cd A out s G E) (Iom.of fun _=>false) .n s1 (Zk 1 (Q62 0)) ∧
   CV (cxOf CX P w K mg base [x,y] qual (defScope st) f cd A out s G E) [.Name y p1,e1,e2] (kIo 1 (X1 f1 (X1 (Jq (.int 0)) Y0))) [] []) :
  FnG P w K mg base CX (k + 1) f fd [x] (QcW K):=by
 refine FnG.mk' Fu S (fun us G Q E h=>by obtain ⟨u,_,_,rfl,_⟩:=h; rfl) fun cd A out s G us Q E hG hR h=>?_
 obtain ⟨⟨t1,q1,b1⟩,⟨t2,q2,b2⟩⟩:=body cd A out s G E hG hR
 obtain ⟨u,F,ns,rfl,sF,⟨a,rfl,hs⟩,kk⟩:=h
 rw [hbd]
 refine ⟨_,pss_cons q1 (pss_cons (ps_ret (pe_lst q2)) pss_nil),?_⟩
 have S0:SR K ⟨Iom.of fun _=>false,fun _=>false,fun _=>false,G,F,[],fun _=>[],fun _ _=>rfl⟩ F G [.scr ns,.no] (L2.start [x,y] [.ref a]) (fun _=>[]):=by
  refine ⟨rfl,fun i s e=>?_,fun _ _=>rfl,fun _ _ _ h=>by simp at h,fun _ _ h=>by simp at h,fun _ _ h=>by simp at h,sF,fun _ h=>by simp at h,fun _ h=>by simp at h,fun _ _ e _=>e,fun _ e n=>absurd e n,Same.refl _,fun _ h=>(by rcases h with h | h <;> cases h),fun i _ _ e=>(by match i,e with | 0,e=>cases e | 1,e=>cases e | _ + 2,e=>simp at e),fun _ h=>by cases h⟩
  match i,e with
  | 0,e=>cases e; exact ⟨rfl,a,rfl,hs⟩
  | 1,e=>cases e; exact rfl
  | _ + 2,e=>simp at e
 refine b1 _ F G _ _ _ rfl S0 (.nx [.scr ns,.ow (.list ((Yp ns).map Q0))]) rfl _ ?_
 intro σ' F1 H1 A1 s01 S1
 refine b2 _ F1 H1 _ _ _ S1 [.io 1,.d (.int (Q3C ns)),.d (.int 0)] [.scr ns,.ow (.list ((Yp ns).map Q0))] ?_ _ ?_
 ·simp only [kIo,X1,Y0,hf ns]
  rfl
 ·intro vs F2 H2 st2 S2 r
  match vs,r with
  | [v0,v1,v2],⟨r0,r1,r2,_⟩ =>
   have e1:=r1.int
   have e2:=r2.int
   subst e1
   subst e2
   obtain ⟨q,g1,g2,xs,g3,g4⟩:=S2.slot 1 _ rfl
   have e0:v0 = .ref q:=by
    have:=Vb g1
    rw [r0] at this
    cases this
    rfl
   subst e0
   have e3:=g4.ints
   subst e3
   refine ⟨by show 3 ≤ sizeLine; decide,fun p hp=>?_⟩
   have hq2:F2 q = none:=S2.hid 1 q (by rw [g2]; simp)
   have hqG:G q = none:=S2.new 1 q (by rw [g2]; simp) rfl
   have hpq:p ≠ q:=fun z=>by rw [z,g3] at hp; cases hp
   have keep:∀ b o,G b = some o → H2 b = some o:=fun b o e=>S2.kp b o e fun i hi=>by cases hi
   have hpG:G p = none:=by
    cases z:G p with
    | none=>rfl
    | some o=>rw [keep p o z] at hp; cases hp
   refine kk p q F2 _ ⟨S2.f0,S2.nw,fun b o e _=>?_⟩ (fun b o e=>?_) hpG hqG (S2.sub.free hp) hq2 hpq upd_same ?_
   ·rw [upd_ne (ne_of_none (keep b o e) hp)]
    exact keep b o e
   ·rw [upd_ne (ne_of_none (S2.sub b o e) hp)]
    exact S2.sub b o e
   ·rw [upd_ne (Ne.symm hpq)]
    exact g3
  | [],r=>exact r.elim
  | [_],r=>exact r.2.elim
  | [_,_],r=>exact r.2.2.elim
  | _ :: _ :: _ :: _ :: _,r=>exact r.2.2.2.elim
end
section
variable {X:Cx} {nm x y:Str} {p pos py p1:Pos}
structure KnD (X:Cx) (x:Str):Prop where
 ex:∃ (CX:CXT) (k:Nat) (a:Addr) (fd:FuncData) (ps:List Str),FnG X.prog X.w X.K X.mg X.base CX k a fd ps (QcW X.K) ∧ Room k X.A ∧ X.mg x = some (.ref a) ∧ PySem.W.keepIn X.K (.ref a) = true ∧ Binds X.K fd ps [] ∧ Passes CX X E0
 gd:X.A.guards = some []
 gl:Gl X x
 db:(x == ("__debug__":Str)) = false
def Q6r (i j:Nat):List Sl → Option Out:=fun δ=>match δ[j]? with
 | some (.scr ns)=>if i < δ.length then some (.nx (δ.set i (.dk (Yp ns) (Q3C ns) 0))) else none
 | _=>none
theorem Qbt {io:Iom} {fr:Fr} {i j:Nat} (hio:io i = false) (T:Tg X i y) (n:Nm X j x) (kn:KnD X nm)
  (h1:starEach [.Name x p1] X.env = (false,eval (.Name x p1) X.env) :: starEach [] X.env:=by rfl) (h2:(backTo p (starEach [] X.env)).any (·.1) = false:=by rfl)
  {pst:Pos} (hs:swapsWith (.Call (.Name nm pos) [.Name x p1] [] p) (some (.Name y py)) pst.line X.env = pure false:=by rfl) :
  SV X io fr (.Assign [.Name y py] (.Call (.Name nm pos) [.Name x p1] [] p) pst) (Q6r i j):=by
 obtain ⟨CX,k,a,fd,ps,Fn,hR,hm,hk,hb,hx⟩:=kn.ex
 refine ⟨_,ps_set T.nd T.at_ T.loc (Fn.pe kn.gd hR kn.gl hm hk hb hx (pa_cons n.pe pa_nil h1) kn.db h1 h2) hs T.fn,fun Y F H δ σ A hY S o e D kk=>?_⟩
 unfold Q6r at e
 split at e
 ·rename_i ns e0
  split at e
  ·rename_i hi
   cases e
   obtain ⟨e1,b,e2,e3⟩:=S.slot j _ e0
   refine ⟨.ref b,Vb e2,.ref b,F,ns,rfl,S.sub,⟨b,rfl,e3⟩,fun p q F' H' st sFH hp hq hpF hqF hpq hp' hq'=>?_⟩
   have st0:Stp (Zr A []) (List.range ([]:List Ar).length) (ex [] A F H) H F' H':=by
    rw [QaA]
    exact ⟨st.f,st.nw,fun a o e _=>st.kp a o e (by simp)⟩
   have S0:SR X.K Fx.any F' H' [] (([]:List V).map some) (Zr A []):=by
    refine ⟨rfl,fun i s e=>by simp at e,fun _ _=>rfl,fun _ _ _ h=>by simp [Zr] at h,fun _ _ h=>by simp [Zr] at h,fun _ _ h=>by simp [Zr] at h,sFH,fun _ h=>(by cases h),fun _ h=>(by cases h),fun _ _ e=>(by cases e),fun _ _ _=>rfl,fun _ _ e=>(by cases e),fun _ h=>(by rcases h with h | h <;> cases h),fun i _ _ e=>(by simp at e),fun _ h=>(by cases h)⟩
   obtain ⟨st3,S3,_⟩:=S.behind (as:=[]) (vs:=[]) (R:=[]) (outs:=[]) rfl trivial st0 S0 rfl
   rw [Q26] at st3 S3
   have S3:SR X.K Y F' H' δ σ A:=S3
   have nA:∀ c,H c = none → ∀ j,c ∉ A j:=fun c hc j m=>S.isSome m hc
   have S4:=S3.put (i:=i) hi (by rw [hY]; exact hio) (s:=.dk (Yp ns) (Q3C ns) 0) (v:=some (.ref p)) (l:=[p,q]) (fun _ _=>by simp) ⟨p,q,rfl,rfl,hp',hq'⟩
    (fun c hc=>by simp at hc; rcases hc with rfl | rfl <;> assumption) (fun c hc=>by simp at hc; rcases hc with rfl | rfl; exact S.fresh0 hp; exact S.fresh0 hq)
    (fun c hc j _=>by simp at hc; rcases hc with rfl | rfl; exact nA _ hp j; exact nA _ hq j)
   exact kk _ F' H' _ st.f S4
  ·cases e
 ·cases e
end
end Z
namespace Z
open PySem PySem.Spec PyProof.Rows L2
theorem hu1 {A:Around} {k:Nat} (hr:Room k A):A.units + 1 < cLine:=by have:=hr.un; omega
theorem Wp {A:Around} {k:Nat} (hr:Room k A):A.units + 65 < cLine:=by have:=hr.un; omega
theorem Ws {A:Around} {k:Nat} (hr:Room k A):A.units + 66 < cLine:=by have:=hr.un; omega
def CVn (X:Cx) (es:List Expr) (f:List Sl → Option (List Ar × List Sl)) (R M:List Nat) (n:Nat) (B:List Nat):Prop:=CV X es f R M ∧ ∀ δ as δ',f δ = some (as,δ') → as.length = n ∧ ∀ i ∈ ios as,i ∈ B
section
variable {X:Cx} {a:Expr} {es:List Expr} {fa fr} {Ra Rr Ma Mr B:List Nat} {n:Nat} {pos:Pos}
theorem X6:CVn X [] Y0 [] [] 0 []:=⟨Q9w,fun δ as δ' e=>by cases e; exact ⟨rfl,fun _ h=>h⟩⟩
theorem Jw (ha:EV X a fa Ra Ma) (hr:CVn X es fr Rr Mr n B) (dj:∀ i ∈ Ra,i ∉ Mr:=by decide) (hs:starEach (a :: es) X.env = (false,eval a X.env) :: starEach es X.env:=by rfl):CVn X (a :: es) (X1 fa fr) (Ra ++ Rr) (Ma ++ Mr) (n + 1) B:=by
 refine ⟨Q5O ha hr.1 dj hs,fun δ as δ' e=>?_⟩
 unfold X1 at e
 cases e1:fa δ with
 | none=>rw [e1] at e; cases e
 | some p =>
  rw [e1] at e
  simp only [Q1] at e
  cases e2:fr p.2 with
  | none=>rw [e2] at e; cases e
  | some q =>
   rw [e2] at e
   cases e
   obtain ⟨h1,h2⟩:=hr.2 _ q.1 q.2 e2
   exact ⟨by rw [Qe,h1],h2⟩
theorem Yi {i:Nat} {x:Str} (nm:Nm X i x) (hr:CVn X es fr Rr Mr n B) (hs:starEach (.Name x pos :: es) X.env = (false,eval (.Name x pos) X.env) :: starEach es X.env:=by rfl):CVn X (.Name x pos :: es) (kIo i fr) Rr Mr (n + 1) (i :: B):=by
 refine ⟨Qcw nm hr.1 hs,fun δ as δ' e=>?_⟩
 unfold kIo at e
 split at e
 ·cases e2:fr δ with
  | none=>rw [e2] at e; cases e
  | some q =>
   rw [e2] at e
   cases e
   obtain ⟨h1,h2⟩:=hr.2 _ q.1 q.2 e2
   exact ⟨by rw [Qe,h1],fun j hj=>by
    rcases Q7.mp hj with z | z
    ·subst z; exact Q5
    ·exact Q4 _ (h2 j z)⟩
 ·cases e
theorem Q2T:∀ δ ds δ',Xf δ = some (ds,δ') → ds.length = 0:=fun _ _ _ e=>by cases e; rfl
theorem Q1r {n:Nat} (h:∀ δ ds δ',(fr:List Sl → Option (List D × List Sl)) δ = some (ds,δ') → ds.length = n):∀ δ ds δ',Js fa fr δ = some (ds,δ') → ds.length = n + 1:=fun δ ds δ' e=>by
 obtain ⟨d,δ1,r,_,e2,rfl⟩:=Q3Y e
 rw [Qe,h _ _ _ e2]
end
def tN:Tt → Nat
 | .nm _=>0
 | .nil=>0
 | .cons _ b=>tN b + 1
def tOk:Tt → Bool
 | .nm _=>true
 | .nil=>true
 | .cons _ (.nm _)=>false
 | .cons _ b=>tOk b
theorem Q7k:∀ (T:Tt) (ds:List D) (δ δ':List Sl),(∀ i,T ≠ .nm i) → tOk T = true → Y2 T ds δ = some δ' → ds.length = tN T
 | .nm i,_,_,_,h,_,_=>absurd rfl (h i)
 | .nil,[],_,_,_,_,_=>rfl
 | .nil,_ :: _,_,_,_,_,e=>by unfold Y2 at e; cases e
 | .cons a b,[],_,_,_,_,e=>by unfold Y2 at e; cases e
 | .cons a b,d :: ds,δ,δ',_,ok,e=>by
  unfold Y2 at e
  cases e1:Y7 a d δ with
  | none=>rw [e1] at e; cases e
  | some δ1 =>
   rw [e1] at e
   have hb:∀ i,b ≠ .nm i:=fun i z=>by subst z; cases ok
   have ok2:tOk b = true:=by
    cases b with
    | nm i=>exact absurd rfl (hb i)
    | nil=>rfl
    | cons _ _=>exact ok
   exact congrArg (· + 1) (Q7k b ds δ1 δ' hb ok2 e)
theorem Q3D {X:Cx} {es:List Expr} {k:Nat} {pos:Pos} {T:Tt} (hc:X.calm = true) (h:GsV X es T) (hT:∀ i,T ≠ .nm i:=by intro _ z; cases z) (ok:tOk T = true:=by rfl) (hn:(assignEach es X.env).length = tN T:=by rfl) (hst:(assignEach es X.env).findIdx? (·.1) = none:=by rfl):GV X (.Tuple es k pos) T :=
 QdC hc h hT hn (fun ds δ δ' e=>Q7k T ds δ δ' hT ok e) hst
structure GK (P:Program) (w:World) (K:PySem.W.Frag) (mg:Str → Option Value) (base:Heap) (x:Str) (k n:Nat) (fr:Fr) (φ:List Sl → Option (D × List Sl)):Prop where
 ex:∃ (a:Addr) (fd:FuncData) (ps:List Str),FnG P w K mg base CX0 k a fd ps (spF K ps.length fr φ) ∧ ps.length = n ∧ mg x = some (.ref a) ∧ PySem.W.keepIn K (.ref a) = true ∧ Binds K fd ps []
structure GKD (P:Program) (w:World) (K:PySem.W.Frag) (mg:Str → Option Value) (base:Heap) (x:Str) (k:Nat):Prop where
 ex:∃ (a:Addr) (fd:FuncData) (ps:List Str),FnG P w K mg base CX0 k a fd ps (QcW K) ∧ mg x = some (.ref a) ∧ PySem.W.keepIn K (.ref a) = true ∧ Binds K fd ps []
section
variable {X:Cx} {x:Str} {k j n:Nat} {fr:Fr} {φ:List Sl → Option (D × List Sl)}
theorem GK.kn (g:GK X.prog X.w X.K X.mg X.base x k n fr φ) (hR:Room j X.A) (hG:X.A.guards = some []) (gl:Gl X x:=by rfl) (hk:k ≤ j:=by decide) (db:(x == ("__debug__":Str)) = false:=by decide):Kn X x n fr φ:=by
 obtain ⟨a,fd,ps,h1,h2,h3,h4,h5⟩:=g.ex
 exact ⟨⟨CX0,k,a,fd,ps,h1,h2,hR.mono hk,h3,h4,h5,pass0⟩,hG,gl,db⟩
theorem GKD.kn (g:GKD X.prog X.w X.K X.mg X.base x k) (hR:Room j X.A) (hG:X.A.guards = some []) (gl:Gl X x:=by rfl) (hk:k ≤ j:=by decide) (db:(x == ("__debug__":Str)) = false:=by decide):KnD X x:=by
 obtain ⟨a,fd,ps,h1,h3,h4,h5⟩:=g.ex
 exact ⟨⟨CX0,k,a,fd,ps,h1,hR.mono hk,h3,h4,h5,pass0⟩,hG,gl,db⟩
end
def GC (K:PySem.W.Frag) (mg:Str → Option Value) (x:Str) (d:D):Prop:=∃ u v,mg x = some u ∧ kRp K 40 u = some (v,d)
def GCt (K:PySem.W.Frag) (mg:Str → Option Value) (x:Str) (ds:List D):Prop:=∃ u v,mg x = some u ∧ kRp K 40 u = some (v,.tuple ds) ∧ kDn K u = true
theorem GCt.c {K:PySem.W.Frag} {mg:Str → Option Value} {x:Str} {ds:List D} (h:GCt K mg x ds):GC K mg x (.tuple ds):=by
 obtain ⟨u,v,h1,h2,_⟩:=h
 exact ⟨u,v,h1,h2⟩
theorem Q3I {X:Cx} {x:Str} {d:D} {pos:Pos} (c:GC X.K X.mg x d) (hg:Gl X x:=by rfl) (db:(x == ("__debug__":Str)) = false:=by decide):EV X (.Name x pos) (Jq d) [] []:=QdP hg ⟨c,db⟩
theorem Q9H {H:Hp} (hO:L2.Only H) {b:Addr} {o:HO} (e:H b = some o):∃ ob xs,o = .frz ob (.lst xs):=by
 rcases hO b with z | ⟨ob,xs,z⟩
 ·rw [e] at z; cases z
 ·rw [e] at z; cases z; exact ⟨ob,xs,rfl⟩
theorem Q79 {K:PySem.W.Frag} {φ:List Sl → Option (D × List Sl)} {H:Hp} {a:Addr} {ns:List Int} (hS:SqL K H a (ns.map V.int)) {outs:List Sl} (hφ:φ [.scr ns] = some (.bool true,outs)):spF K 1 .n φ [.ref a] H (fun v _=>v = .bl true) (fun _ _ _=>False):=by
 refine ⟨H,[.scr ns],fun _=>[],rfl,?_,.bool true,outs,hφ,fun v F' H' _ _ r=>?_⟩
 ·refine ⟨rfl,fun i s e=>?_,fun _ _=>rfl,fun _ _ _ h=>by simp at h,fun _ _ h=>by simp at h,fun _ _ h=>by simp at h,Same.refl _,fun _ h=>(by cases h),fun _ h=>(by cases h),fun _ _ e=>(by cases e),fun _ _ _=>rfl,fun _ _ e=>(by cases e),fun _ h=>(by rcases h with h | h <;> cases h),fun i _ _ e=>(by match i,e with | 0,e=>cases e | _ + 1,e=>simp at e),fun _ h=>(by cases h)⟩
  match i,e with
  | 0,e=>cases e; exact ⟨rfl,a,rfl,hS⟩
  | _ + 1,e=>simp at e
 ·exact Q2N r
theorem QdL {P:Program} {w:World} {K:PySem.W.Frag} {mg mb:Str → Option Value} {k:Nat} {fa a:Addr} {fd:FuncData} {x:Str} {φ:List Sl → Option (D × List Sl)} {s1:Shared} {vs:List Value} {ns:List Int}
  (KX:K.In s1.heap) (hns:s1.heap.Ns mainGlobals mg) (hb:s1.heap.Ns builtinsNs mb) (hbb:∀ x:Str,x ≠ "__name__" → mb x = bootBuiltins x) (hlim:s1.heap.NoLimit) (hg:s1.gens = #[])
  (ha:s1.heap.get? a = some { cls:=.type "list",data:=.seq vs.toArray }) (hi:IntsAre vs ns) (hl:ns.length ≤ sizeLine) (hr:Room k callerA)
  (Fn:∀ base:Heap,K.In base → base.Ns mainGlobals mg → FnG P w K mg base CX0 k fa fd [x] (spF K 1 .n φ)) (hbind:∀ (s:Shared) (u:Value),BindsTo s fd ⟨[u],[]⟩ [(x,u)])
  (hφ:∃ outs,φ [.scr ns] = some (.bool true,outs)) :
  codeAny (model P w) callerA (.call (.ref fa) ⟨[.ref a],[]⟩) (fun r s'=>r = .ok (.ret (.bool true)) ∧ OldK s1.heap s'.heap ∧ s'.os = s1.os ∧ AllBare s'.gens) s1:=by
 obtain ⟨outs,hφ⟩:=hφ
 have rv:=vals_ints hi
 have lv:=hi.length
 -- the heap H: nothing,or the script alone
 have go:∀ H:Hp,L2.Only H → SqL K H a (ns.map V.int) → HOk P w H s1.heap → (∀ b,H b ≠ none → b = a) → (H a ≠ none → K.lookup a = none) →
   codeAny (model P w) callerA (.call (.ref fa) ⟨[.ref a],[]⟩) (fun r s'=>r = .ok (.ret (.bool true)) ∧ OldK s1.heap s'.heap ∧ s'.os = s1.os ∧ AllBare s'.gens) s1:=by
  intro H hO hS hok hA hK
  have free:∀ {b:Addr} {o:Obj},s1.heap.get? b = some o → o.data ≠ .seq vs.toArray → H b = none:=fun {b o} e d=>by
   cases q:H b with
   | none=>rfl
   | some u =>
    obtain rfl:=hA b (by rw [q]; simp)
    rw [ha] at e
    cases e
    exact absurd rfl d
  have there:∀ {b:Addr} {o:Obj},s1.heap.get? b = some o → H b = none → (hidT s1.heap H).get? b = some o:=fun e n=>hidT_get e n
  have nsK:∀ {b:Addr} {m:Str → Option Value},s1.heap.Ns b m → (hidT s1.heap H).Ns b m:=fun {b m} ⟨o,es,ep,e,d,r⟩=>⟨o,es,ep,there e (free e (by rw [d]; intro z; cases z)),d,r⟩
  have hKb:K.In (hidT s1.heap H):=fun b o e=>there (KX b o e) (by
   cases q:H b with
   | none=>rfl
   | some u =>
    obtain rfl:=hA b (by rw [q]; simp)
    have:=hK (by rw [q]; simp)
    rw [e] at this
    cases this)
  have hM:Mod K mg (hidT s1.heap H):=by
   obtain ⟨mc,l1,l2⟩:=hlim
   exact ⟨hKb,nsK hns,⟨mb,nsK hb,hbb⟩,mc,nsK l1,l2⟩
  have e0:Env0 P w K mg (hidT s1.heap H) callerA [] s1 H:=⟨rfl,hM,fun b o e=>of_hidT e,Nat.le_of_eq (hidT_size _ _),trivial,fun b hb=>absurd (show b ∈ ([]:List Addr) from hb) (by simp),hok,.of_eq hg⟩
  have run:=(Fn _ hKb (nsK hns)).run callerA [] s1 H ⟨[.ref a],[]⟩ [.ref a] [.ref a] _ _ rfl hr e0 (hbind s1 (.ref a)) (.cons rfl .nil) (Q79 hS hφ)
  refine codeAny_mono run fun r s' h=>?_
  match r,h with
  | .error _,h=>exact h.elim
  | .ok .next,h=>exact h.elim
  | .ok .brk,h=>exact h.elim
  | .ok .cont,h=>exact h.elim
  | .ok (.ret u),h =>
   obtain ⟨v,H',os,bare,un,hok',r',q⟩:=h
   obtain rfl:v = .bl true:=q
   obtain rfl:u = Value.bool true:=r'
   refine ⟨rfl,OldK.of_keep fun b o e=>?_,os,bare⟩
   cases q:H b with
   | none=>exact un.keep b o e q (fun z=>absurd (show b ∈ ([]:List Addr) from z) (by simp)) (by simp)
   | some u =>
    obtain ⟨ob,xs,rfl⟩:=Q9H hO q
    obtain ⟨e1,_⟩:=hok b _ q
    obtain ⟨e2,_⟩:=hok' b _ (un.frzs b ob _ q)
    rw [e] at e1
    cases e1
    exact e2
 cases hk:K.lookup a with
 | some o =>
  have e:=KX a o hk
  rw [ha] at e
  cases e
  exact go (fun _=>none) (fun _=>.inl rfl) (.inr ⟨_,vs.toArray,_,hk,rfl,rfl,rfl,by rw [List.size_toArray,lv]; exact hl,by simpa using rv⟩) (fun b u z=>by cases (show (none:Option HO) = some u from z)) (fun b z=>absurd rfl z) (fun z=>absurd rfl z)
 | none =>
  have yes:∀ b,b = a → (if b = a then some (HO.frz { cls:=.type "list",data:=.seq vs.toArray } (.lst (ns.map V.int))) else none) = some (HO.frz { cls:=.type "list",data:=.seq vs.toArray } (.lst (ns.map V.int))):=fun b h=>if_pos h
  refine go (fun b=>if b = a then some (.frz { cls:=.type "list",data:=.seq vs.toArray } (.lst (ns.map V.int))) else none) (fun b=>?_) (.inl (.inr ⟨_,yes a rfl⟩)) (fun b u z=>?_) (fun b z=>?_) fun _=>hk
  ·by_cases c:b = a
   ·exact .inr ⟨_,_,yes b c⟩
   ·exact .inl (if_neg c)
  ·by_cases c:b = a
   ·subst c
    cases (yes b rfl).symm.trans z
    exact ⟨ha,by rw [Q3]; exact hl,vs,_,rv,ha⟩
   ·cases (if_neg c:(if b = a then some (HO.frz { cls:=.type "list",data:=.seq vs.toArray } (.lst (ns.map V.int))) else none) = none).symm.trans z
  ·by_cases c:b = a
   ·exact c
   ·exact absurd (if_neg c) z
end Z
namespace Z
open PySem PySem.Spec PyProof.Rows L2
section
variable {X:Cx} {x:Str} {i:Nat} {pos:Pos}
theorem nmk (i:Nat) (h:X.N[i]? = some x:=by rfl) (v:Vis X.env.scope x:=by first | exact .inl rfl | exact .inr (.inl rfl) | exact .inr (.inr rfl)) (db:(x == ("__debug__":Str)) = false:=by decide) (cd:(x == ("__classdict__":Str)) = false:=by decide):Nm X i x:=⟨h,v,db,cd⟩
theorem tgk (i:Nat) (nd:X.N.Nodup) (h:X.N[i]? = some x:=by rfl) (l:Loc X.env.scope x:=by first | exact .inl rfl | exact .inr rfl) (f:X.fn x = true ∨ X.env.scope.names.lookup x = some .local:=by first | exact .inr rfl | exact .inl rfl):Tg X i x:=⟨nd,h,l,f⟩
theorem bnk {v:Value} (m:X.mg x = none) (gl:Gl X x:=by rfl) (bt:bootBuiltins x = some v:=by decide +kernel) (nn:x ≠ "__name__":=by decide) (db:(x == ("__debug__":Str)) = false:=by decide):Bn X x v:=⟨gl,m,bt,nn,db⟩
theorem Jt (i:Nat) (h:X.N[i]? = some x:=by rfl) (v:Vis X.env.scope x:=by first | exact .inl rfl | exact .inr (.inl rfl) | exact .inr (.inr rfl)) (db:(x == ("__debug__":Str)) = false:=by decide) (cd:(x == ("__classdict__":Str)) = false:=by decide):EV X (.Name x pos) (Jr i) [] []:=Q9O h v db cd
def fRd (i:Nat):List Sl → Option (D × List Sl):=fun δ=>match δ[i]? with
 | some (.fz d)=>some (d,δ)
 | some (.ow (.list ds))=>some (.list ds,δ)
 | some (.lk ds)=>some (.dict ds,δ)
 | _=>none
theorem Yj (i:Nat) (h:X.N[i]? = some x:=by rfl) (v:Vis X.env.scope x:=by first | exact .inl rfl | exact .inr (.inl rfl) | exact .inr (.inr rfl)) (db:(x == ("__debug__":Str)) = false:=by decide) (cd:(x == ("__classdict__":Str)) = false:=by decide):EV X (.Name x pos) (fRd i) [i] []:=by
 obtain ⟨t,p,q⟩:=Q9O (pos:=pos) h v db cd
 obtain ⟨t2,p2,q2⟩:=Qdr (pos:=pos) h v db cd
 refine ⟨_,pe_var h v db cd,fun Y F H δ σ A S d δ' e Q k=>?_⟩
 unfold fRd at e
 split at e
 ·rename_i d0 hd
  cases e
  obtain ⟨_,u,e2,r⟩:=S.slot i _ hd
  exact ⟨u,Vb e2,k u F H Stp.refl S (.inl r)⟩
 ·rename_i d0 hd
  cases e
  obtain ⟨u,e2,e3,o⟩:=S.slot i _ hd
  exact ⟨_,Vb e2,k _ F H Stp.refl S (.inr ⟨i,by simp,u,rfl,e3,o⟩)⟩
 ·rename_i d0 hd
  cases e
  obtain ⟨u,e2,e3,o⟩:=S.slot i _ hd
  exact ⟨_,Vb e2,k _ F H Stp.refl S (.inr ⟨i,by simp,u,rfl,e3,o⟩)⟩
 ·cases e
end
section
variable {X:Cx} {x:Str} {p pos:Pos} {e:Expr} {es:List Expr} {R M:List Nat} {f:List Sl → Option (List Ar × List Sl)} {φ:List Sl → Option (D × List Sl)} {n:Nat} {B:List Nat}
theorem Xl (kn:Kn X x n .n φ) (h:CVn X (e :: es) f R M n B) (h1:starEach (e :: es) X.env = (false,eval e X.env) :: starEach es X.env:=by rfl) (h2:(backTo pos (starEach es X.env)).any (·.1) = false:=by rfl):EV X (.Call (.Name x p) (e :: es) [] pos) (Xb R true φ f) [] (M ++ B):=Qc2 kn h.2 h.1 h1 h2
theorem Q8v (kn:Kn X x n .l φ) (h:CVn X (e :: es) f [] M n B) (h1:starEach (e :: es) X.env = (false,eval e X.env) :: starEach es X.env:=by rfl) (h2:(backTo pos (starEach es X.env)).any (·.1) = false:=by rfl):NV X (.Call (.Name x p) (e :: es) [] pos) (Xb [] true φ f) (M ++ B):=Qbs kn h.2 h.1 h1 h2
theorem Ww {A:Around} {k:Nat} (hr:Room k A):A.units + 67 < cLine:=by have:=hr.un; omega
end
def Qec (N:List Str) (sc scope:Scope) (own:List (Str × Nat)):Bool :=
 decide (scope.kind = .function) && scope.names.all (fun y=>decide (scope.names.lookup y.1 = some y.2)) && own.all (fun p=>decide (N[p.2]? = some p.1)) && scope.names.all (fun y=>decide (y.2 ≠ .free) || decide (sc.names.lookup y.1 = some .cell) || decide (sc.names.lookup y.1 = some .free))
  && scope.names.all (fun y=>decide (y.2 ≠ .local ∧ y.2 ≠ .cell) || (own.map (·.1)).contains y.1 || !(N.contains y.1))
theorem Wa {N:List Str} {sc scope:Scope} {own:List (Str × Nat)} (h:Qec N sc scope own = true):BlkOk N sc scope own:=by
 unfold Qec at h
 simp only [Q6,decide_eq_true_eq,Qq,J8,List.contains_iff_mem,Bool.not_eq_true'] at h
 obtain ⟨⟨⟨⟨h1,h2⟩,h3⟩,h4⟩,h5⟩:=h
 refine ⟨h1,h2,h3,fun y hy e=>?_,fun y hy e=>?_⟩
 ·rcases h4 y hy with (z | z) | z
  ·exact absurd e z
  ·exact .inl z
  ·exact .inr z
 ·rcases h5 y hy with (z | z) | z
  ·rcases e with e | e
   ·exact absurd e z.1
   ·exact absurd e z.2
  ·exact .inl z
  ·refine .inr fun m=>?_
   rw [List.contains_iff_mem.mpr m] at z
   cases z
theorem QbW (ns:List Int):f2 Y8 (f2 Kp (fA (g1 Q5R) (Js (fRd 1) Xf)) (Jq (.int 2147483629))) (f2 Y6 (Jq (.int 48271)) (fA (g1 Zq) (Js (fRd 1) Xf))) [.scr ns,.ow (.list ((Yp ns).map Q0))] = some (.int (Q3C ns),[.scr ns,.ow (.list ((Yp ns).map Q0))]):=by
 have e1:Js (fRd 1) Xf [.scr ns,.ow (.list ((Yp ns).map Q0))] = some ([.list ((Yp ns).map Q0)],[.scr ns,.ow (.list ((Yp ns).map Q0))]):=rfl
 have e2:g1 Q5R [.list ((Yp ns).map Q0)] = some (.int (Yp ns).sum):=by
  simp only [g1,Q5R,Q0m,Qb]
 have e3:g1 Zq [.list ((Yp ns).map Q0)] = some (.int ((Yp ns).length:Nat)):=by
  simp only [g1,Zq,Q3]
 have e4:Kp (.int (Yp ns).sum) (.int 2147483629) = some (.int ((Yp ns).sum % 2147483629)):=by
  simp [Kp]
 simp only [f2,fA,Jq,e1,e2,e3,e4,Q1,Qb]
 rfl
theorem gcs {K:PySem.W.Frag} {u:Value} {d:D} (h:(kRp K 40 u).map (·.2) = some d):kRp K 40 u = some ((((kRp K 40 u).map (·.1)).getD .non),d):=by
 cases e:kRp K 40 u with
 | none=>rw [e] at h; cases h
 | some p =>
  rw [e] at h
  cases h
  rfl
end Z
namespace Z
open PySem PySem.Spec PyProof.Rows L2
theorem Q3F:∀ cs:List Int,Jc (cs.map Q0) = true
 | []=>rfl
 | c :: r=>by
  show (PyData.plain (.int c) && Jc (r.map Q0)) = true
  rw [Q3F r]
  rfl
theorem Q6A:∀ cs:List Int,Qv (cs.map Q0) ≤ 1
 | []=>Ja _
 | c :: r=>by
  have:=Q6A r
  simp only [Qm,Qv,PyData.depth]
  omega
theorem Q67 (cs:List Int):shp (.list (cs.map Q0)) = true:=by
 have h1:=Q3F cs
 have h2:=Q6A cs
 unfold shp
 rw [Q6,decide_eq_true_eq]
 refine ⟨h1,?_⟩
 simp only [PyData.depth]
 omega
theorem Q2H (cs:List Int):eqD (.list (cs.map Q0)) (.list []) = some cs.isEmpty:=by
 unfold eqD
 rw [Q67,show shp (.list []) = true from rfl]
 cases cs <;> rfl
def Q3Q:List Sl → Option Out:=Ju (sIf (fun δ=>toB (f2 (bD geD) (Jr 2) (f2 Kv (Jq (.int 10)) (Jq (.int 18))) δ)) (Ju (Q3q (Q2t 0 (f2 Q0E (Jr 2) (Jr 1)))) (Ju (Yl (f2 Kp (Jr 2) (Jr 1))) (Xt))) (Xt)) (Ju (Ys 3 (f2 Kp (f2 Y6 (f2 Y8 (f2 Y8 (f2 Kp (Jr 2) (Jq (.int 2147483629))) (f2 Y6 (Jq (.int 104729)) (Q3H 0))) (Jq (.int 1))) (Jq (.int 48271))) (Jq (.int 2147483647)))) (Ju (Ys 3 (f2 Kp (f2 Y8 (f2 Y8 (f2 Y6 (Jr 3) (Jr 3)) (f2 Y6 (Jq (.int 69621)) (Q3H 0))) (Jq (.int 7))) (Jq (.int 2147483587)))) (Ju (Yl (f2 Kp (f2 Q0E (f2 Kp (f2 Y6 (Jr 3) (f2 Y8 (f2 Q0E (Jr 3) (Jq (.int 3))) (Jq (.int 39373)))) (Jq (.int 2305843009213693951))) (Jq (.int 128))) (Jr 1))) (Xt))))
def Q8m:List Sl → Option Out:=Ju (Q98 0 (f2 Y8 (Q3H 0) (Jq (.int 1)))) (Ju (Ys 2 (Q1N (Q9f 0) (Q9G 0) (Q40 0))) Q3Q)
theorem Xk (a b:Int):Y8 (.int a) (.int b) = some (.int (a + b)):=rfl
theorem Y5 (a b:Int) (h:Wq a = true):Y6 (.int a) (.int b) = some (.int (a * b)):=by simp [Y6,Q6Z,h]
theorem Qd8 (a b:Int) (h:Wq b = true):Y6 (.int a) (.int b) = some (.int (a * b)):=by simp [Y6,Q6Z,h]
theorem Q5d (a k:Int) (h:0 < k) (h2:k ≤ 2 ^ 62):Wq (a % k) = true:=by
 have h3:=Int.emod_nonneg a (Int.ne_of_gt h)
 have h4:=Int.emod_lt_of_pos a h
 unfold Wq
 simp
 omega
theorem Xz (a b:Int):Z0 (.int a) (.int b) = some (.int (a - b)):=rfl
theorem Q0i (a b:Int) (h:0 < b):Kp (.int a) (.int b) = some (.int (a % b)):=if_pos h
theorem Q1f (a b:Int) (h:0 < b) (h2:b < 2 ^ 30):Q0E (.int a) (.int b) = some (.int (a / b)):=by
 show (if (decide (0 < b) && decide (b < 1073741824)) = true then some (Q0 (a / b)) else none) = _
 rw [if_pos (by simp [h]; omega)]
theorem Q99 (cs:List Int) (m n c M:Int) (hM:0 < M) (hM2:M < 2 ^ 30) (hc:cs.length < 1000) :
  ∃ (r:Int) (cs':List Int) (z:Sl),0 ≤ r ∧ r < M ∧ cs'.length ≤ cs.length + 1 ∧ Q3Q [.dk cs m n,.fz (.int M),.fz (.int c),.no] = some (.rt (.int r) [.dk cs' m n,.fz (.int M),.fz (.int c),z]):=by
 have hs:cs.length < sizeLine:=Qd hc (by decide)
 by_cases h:(10:Int) ^ 18 ≤ c
 ·refine ⟨c % M,cs ++ [c / M],.no,Int.emod_nonneg _ (by omega),Int.emod_lt_of_pos _ hM,by simp,?_⟩
  have e1:geD (.int c) (.int (10 ^ 18)) = some true:=by
   simp [geD]
   omega
  have e2:Kv (.int 10) (.int 18) = some (.int (10 ^ 18)):=rfl
  simp only [Q3Q,Ju,sIf,Q3q,Yl,toB,f2,Jr,Jq,Q2t,Zp,bD,e1,e2,Q1f _ _ hM hM2,Q0i _ _ hM,hs,List.getElem?_cons_zero,List.getElem?_cons_succ,Q1,Qb,if_true,List.set_cons_zero]
 ·refine ⟨(((((c % 2147483629 + 104729 * n + 1) * 48271) % 2147483647) * (((c % 2147483629 + 104729 * n + 1) * 48271) % 2147483647) + 69621 * n + 7) % 2147483587 * ((((((c % 2147483629 + 104729 * n + 1) * 48271) % 2147483647) * (((c % 2147483629 + 104729 * n + 1) * 48271) % 2147483647) + 69621 * n + 7) % 2147483587) / 3 + 39373) % 2305843009213693951 / 128) % M,cs,.fz (.int (((((c % 2147483629 + 104729 * n + 1) * 48271) % 2147483647) * (((c % 2147483629 + 104729 * n + 1) * 48271) % 2147483647) + 69621 * n + 7) % 2147483587)),Int.emod_nonneg _ (Int.ne_of_gt hM),Int.emod_lt_of_pos _ hM,by omega,?_⟩
  have e1:geD (.int c) (.int (10 ^ 18)) = some false:=by simp [geD]; omega
  have e2:Kv (.int 10) (.int 18) = some (.int (10 ^ 18)):=rfl
  have m1:∀ a:Int,Kp (.int a) (.int 2147483629) = some (.int (a % 2147483629)):=fun a=>Q0i a _ (by decide)
  have m2:∀ a:Int,Kp (.int a) (.int 2147483647) = some (.int (a % 2147483647)):=fun a=>Q0i a _ (by decide)
  have m3:∀ a:Int,Kp (.int a) (.int 2147483587) = some (.int (a % 2147483587)):=fun a=>Q0i a _ (by decide)
  have m4:∀ a:Int,Kp (.int a) (.int 2305843009213693951) = some (.int (a % 2305843009213693951)):=fun a=>Q0i a _ (by decide)
  have d1:∀ a:Int,Q0E (.int a) (.int 3) = some (.int (a / 3)):=fun a=>Q1f a _ (by decide) (by decide)
  have d2:∀ a:Int,Q0E (.int a) (.int 128) = some (.int (a / 128)):=fun a=>Q1f a _ (by decide) (by decide)
  have l1:∀ a:Int,Y6 (.int 104729) (.int a) = some (.int (104729 * a)):=fun a=>Y5 _ _ rfl
  have l2:∀ a:Int,Y6 (.int 69621) (.int a) = some (.int (69621 * a)):=fun a=>Y5 _ _ rfl
  have l3:∀ a:Int,Y6 (.int a) (.int 48271) = some (.int (a * 48271)):=fun a=>Qd8 _ _ rfl
  have l4:∀ a b:Int,Y6 (.int (a % 2147483647)) (.int b) = some (.int ((a % 2147483647) * b)):=fun a b=>Y5 _ _ (Q5d _ _ (by decide) (by decide))
  have l5:∀ a b:Int,Y6 (.int (a % 2147483587)) (.int b) = some (.int ((a % 2147483587) * b)):=fun a b=>Y5 _ _ (Q5d _ _ (by decide) (by decide))
  have mM:∀ a:Int,Kp (.int a) (.int M) = some (.int (a % M)):=fun a=>Q0i a _ hM
  simp only [Q3Q,Ju,sIf,Ys,Q3q,Yl,Xt,toB,f2,Jr,Jq,Q3H,Zp,bD,e1,e2,m1,m2,m3,m4,d1,d2,mM,Xk,l1,l2,l3,l4,l5,hs,List.getElem?_cons_zero,List.getElem?_cons_succ,Q1,Qb,Qe,Qu,List.set_cons_zero,List.set_cons_succ,Nat.reduceAdd,Nat.reduceLT,if_true]
theorem QcS {sg:List Bool} {m:Nat} {fr:Fr} {g:List Sl → Option Out} {as δ o:List Sl} {d:D} (h1:Q1T sg as = true) (h2:g (as ++ Q8 (m - sg.length) .no) = some (.rt d δ)) (h3:V6 as δ = some o):fnF sg m fr g as = some (d,o):=by
 unfold fnF
 rw [h1,h2]
 show (V6 as δ).map (fun o=>(d,o)) = _
 rw [h3]
 rfl
def Q3U:List Sl → Option (D × List Sl):=fnF [true,false] 4 .n Q8m
theorem Qbl (cs:List Int) (m n M:Int) (hM:0 < M) (hM2:M < 2 ^ 30) (hc:cs.length ≤ 63):∃ (r:Int) (cs':List Int) (n':Int),0 ≤ r ∧ r < M ∧ cs'.length ≤ 63 ∧ Q3U [.dk cs m n,.fz (.int M)] = some (.int r,[.dk cs' m n',.fz (.int M)]):=by
 have fin:∀ (cs0:List Int) (c:Int),cs0.length ≤ 62 → Q8m [.dk cs m n,.fz (.int M),.no,.no] = Q3Q [.dk cs0 m (n + 1),.fz (.int M),.fz (.int c),.no] →
   ∃ (r:Int) (cs':List Int) (n':Int),0 ≤ r ∧ r < M ∧ cs'.length ≤ 63 ∧ Q3U [.dk cs m n,.fz (.int M)] = some (.int r,[.dk cs' m n',.fz (.int M)]):=fun cs0 c hl e=>by
  obtain ⟨r,cs',z,h1,h2,h3,h4⟩:=Q99 cs0 m (n + 1) c M hM hM2 (by omega)
  refine ⟨r,cs',n + 1,h1,h2,by omega,?_⟩
  exact QcS rfl (e.trans h4) rfl
 have en:∀ a b:Int,Y8 (.int a) (.int b) = some (.int (a + b)):=fun _ _=>rfl
 cases cs with
 | nil =>
  refine fin [] m (by simp) ?_
  simp only [Q8m,Ju,Q98,Ys,Q1N,Q9f,Q9G,Q3H,f2,Jq,Zp,en,Q2H,List.isEmpty_nil,List.getElem?_cons_zero,Q1,Qb,Qe,Qu,List.set_cons_zero,List.set_cons_succ,Nat.reduceAdd,Nat.reduceLT,if_true]
 | cons x r =>
  have he:(x :: r).isEmpty = false:=rfl
  generalize (x :: r) = cs at he hc fin ⊢
  have h0:0 < cs.length:=by
   cases cs with
   | nil=>cases he
   | cons _ _=>simp
  obtain ⟨c,hl⟩:∃ c,cs[cs.length - 1]? = some c:=⟨_,Ql (by omega)⟩
  refine fin cs.dropLast c (by rw [List.length_dropLast]; omega) ?_
  simp only [Q8m,Ju,Q98,Ys,Q1N,Q9f,Q40,Q3H,f2,Jq,Zp,en,Q2H,hl,he,List.getElem?_cons_zero,Q1,Qb,List.set_cons_zero,List.set_cons_succ,Qe,Qu,Nat.reduceAdd,Nat.reduceLT,if_true]
theorem Qa0:1000000 ≤ sizeLine:=by decide
theorem Q7E {i:Int} (h0:-1000000 ≤ i) (h1:i ≤ 1000000):W2 i = true:=by
 unfold W2
 simp
 omega
end Z
namespace Z
open PySem PySem.Spec PyProof.Rows L2
def rgB (i j:Int):Bool:=decide (0 ≤ i) && decide (i ≤ 16777216) && decide (0 ≤ j) && decide (j ≤ 16777216)
def rgD:D → D → Option D
 | .int i,.int j=>if rgB i j then some (.list (Q1t i (j - i).toNat)) else none
 | _,_=>none
theorem Qa3 {d e z:D} (h:rgD d e = some z):∃ i j,d = .int i ∧ e = .int j ∧ RgOk i j ∧ z = .list (Q1t i (j - i).toNat):=by
 unfold rgD at h
 split at h
 ·rename_i i j
  split at h
  ·rename_i c
   cases h
   unfold rgB at c
   simp only [Q6,decide_eq_true_eq] at c
   exact ⟨i,j,rfl,rfl,RgOk.of_le c.1.1.1 c.2 c.1.1.2 c.1.2,rfl⟩
  ·cases h
 ·cases h
theorem Qdz {K:PySem.W.Frag} {G:Hp} (i j:Int):Rps K G (rgV i j) (Q1t i (j - i).toNat):=by
 unfold rgV Q1t
 induction List.range (j - i).toNat with
 | nil=>exact .nil
 | cons a r ih=>exact .cons (.int _) ih
section
variable {X:Cx} {a b:Expr} {fa fb:List Sl → Option (D × List Sl)} {Ra Rb Ma Mb:List Nat} {p p2 pos pos2:Pos}
theorem Q8D (hc:X.calm = true) (hm:X.mg "list" = none) (hm2:X.mg "range" = none) (ha:EV X a fa Ra Ma) (hb:EV X b fb Rb Mb) (hg:Gl X "list":=by rfl) (hg2:Gl X "range":=by rfl) (dj:∀ i ∈ Ra,i ∉ Mb:=by decide)
  (na:starEach [a,b] X.env = (false,eval a X.env) :: starEach [b] X.env:=by rfl) (nb:starEach [b] X.env = (false,eval b X.env) :: starEach [] X.env:=by rfl) (hp:(backTo pos2 (starEach [b] X.env)).any (·.1) = false:=by rfl)
  (nc:starEach [.Call (.Name "range" p2) [a,b] [] pos2] X.env = (false,eval (.Call (.Name "range" p2) [a,b] [] pos2) X.env) :: starEach [] X.env:=by rfl) :
  NV X (.Call (.Name "list" p) [.Call (.Name "range" p2) [a,b] [] pos2] [] pos) (f2 rgD fa fb) (Ma ++ Mb):=by
 obtain ⟨ta,tb,pa,pb,q⟩:=two (g:=rgD) ha hb dj
 refine ⟨_,pe_listRg hc hg hm (prg_2 hg2 hm2 pa pb na nb hp) nc,fun Y F H δ σ A S z δ' e Q k=>?_⟩
 refine q Y F H δ σ A S z δ' e _ fun x y d e F1 H1 st S1 r1 r2 hg=>?_
 obtain ⟨i,j,rfl,rfl,ok,rfl⟩:=Qa3 hg
 refine ⟨i,j,r1.int,r2.int,ok,fun c hc=>?_⟩
 exact k c F1 _ (Y3 S1 st (Stp.laidO hc)) (S1.laidO hc) (Q4z st S1 hc) (S1.sub.free hc) ⟨_,upd_same,Qdz i j⟩
end
end Z
namespace Z
open PySem PySem.Spec PyProof.Rows L2
def PrR (K:PySem.W.Frag) (F:Hp):List (V × V) → List (D × D) → Prop
 | [],[]=>True
 | (x,y) :: r,(d,e) :: s=>Rp K F x d ∧ Rp K F y e ∧ PrR K F r s
 | _,_=>False
def PV (X:Cx) (pos:Pos) (ks:List (Option Expr)) (vs:List Expr) (f:List Sl → Option (List (D × D) × List Sl)) (M:List Nat):Prop :=
 ∃ trs,PPs X pos ks vs trs ∧ ∀ (Y:Fx) (F H:Hp) (δ:List Sl) (σ:L2.St) (A:Nat → List Addr),SR X.K Y F H δ σ A → ∀ (ds:List (D × D)) (δ':List Sl),f δ = some (ds,δ') → ∀ Q:List (V × V) → Hp → Prop,
  (∀ ps F' H',Stp A M F H F' H' → SR X.K Y F' H' δ' σ A → PrR X.K F' ps ds → Q ps H') → tPairs trs σ H Q
def QbM:List Sl → Option (List (D × D) × List Sl):=fun δ=>some ([],δ)
def Q3W (fk fv:List Sl → Option (D × List Sl)) (fr:List Sl → Option (List (D × D) × List Sl)):List Sl → Option (List (D × D) × List Sl):=fun δ=>(fk δ).bind fun p=>(fv p.2).bind fun q=>(fr q.2).map fun r=>((p.1,q.1) :: r.1,r.2)
section
variable {X:Cx} {pos:Pos} {ks:List (Option Expr)} {vs:List Expr} {k v:Expr} {fk fv:List Sl → Option (D × List Sl)} {fr:List Sl → Option (List (D × D) × List Sl)} {Mk Mv Mr:List Nat}
theorem Q9L:PV X pos [] [] QbM []:=by
 refine ⟨_,pps_nil,fun Y F H δ σ A S ds δ' e Q k=>?_⟩
 cases e
 exact k [] F H Stp.refl S trivial
theorem Q5i (hk:EV X k fk [] Mk) (hv:EV X v fv [] Mv) (hr:PV X pos ks vs fr Mr):PV X pos (some k :: ks) (v :: vs) (Q3W fk fv fr) (Mk ++ Mv ++ Mr):=by
 obtain ⟨tk,pk,qk⟩:=hk
 obtain ⟨tv,pv,qv⟩:=hv
 obtain ⟨tr,pr,qr⟩:=hr
 refine ⟨_,pps_cons pk pv pr,fun Y F H δ σ A S ds δ' e Q kk=>?_⟩
 unfold Q3W at e
 cases e1:fk δ with
 | none=>rw [e1] at e; cases e
 | some w =>
  obtain ⟨d,δ1⟩:=w
  rw [e1] at e
  simp only [Q1] at e
  cases e2:fv δ1 with
  | none=>rw [e2] at e; cases e
  | some w =>
   obtain ⟨d2,δ2⟩:=w
   rw [e2] at e
   simp only [Q1] at e
   cases e3:fr δ2 with
   | none=>rw [e3] at e; cases e
   | some w =>
    obtain ⟨r,δ3⟩:=w
    rw [e3] at e
    cases e
    refine qk Y F H δ σ A S d δ1 e1 _ fun x F1 H1 st1 S1 r1=>?_
    refine qv Y F1 H1 δ1 σ A S1 d2 δ2 e2 _ fun y F2 H2 st2 S2 r2=>?_
    refine qr Y F2 H2 δ2 σ A S2 r δ3 e3 _ fun ps F3 H3 st3 S3 r3=>?_
    exact kk _ F3 H3 ((st1.trans S1 st2).trans S2 st3) S3 ⟨r1.nil.mono (st2.f.trans st3.f),r2.nil.mono st3.f,r3⟩
def Q20:List (D × D) → Option (List Key)
 | []=>some []
 | p :: r=>(Vg p.1).bind fun k=>(Q20 r).bind fun ks=>if ks.any (fun j=>decide (j = k)) then none else some (k :: ks)
theorem PrR.keys {K:PySem.W.Frag} {F:Hp}:∀ {ps:List (V × V)} {ds:List (D × D)} {ks:List Key},PrR K F ps ds → Q20 ds = some ks → ∃ kvs:List (Key × V),ps = kvs.map (fun kv=>(kV kv.1,kv.2)) ∧ kvs.map (·.1) = ks ∧ ks.Nodup ∧ RpK K F kvs ds
 | [],[],ks,_,h=>by cases h; exact ⟨[],rfl,rfl,List.nodup_nil,.nil⟩
 | (x,y) :: r,(d,e) :: s,ks,⟨h1,h2,h3⟩,h=>by
  unfold Q20 at h
  cases e1:Vg d with
  | none=>rw [e1] at h; cases h
  | some k =>
   rw [e1] at h
   simp only [Q1] at h
   cases e2:Q20 s with
   | none=>rw [e2] at h; cases h
   | some ks' =>
    rw [e2] at h
    simp only [Q1] at h
    split at h
    ·cases h
    ·rename_i nk
     cases h
     obtain ⟨kvs,q1,q2,q3,q4⟩:=PrR.keys h3 e2
     have ex:=Q44 e1 h1
     have ed:d = Q4e k:=by
      cases d with
      | int i=>cases e1; rfl
      | str z=>cases e1; rfl
      | _=>cases e1
     subst ed
     refine ⟨(k,y) :: kvs,by rw [Qm,q1,ex],by rw [Qm,q2],List.nodup_cons.mpr ⟨fun z=>nk (List.any_eq_true.mpr ⟨_,z,decide_eq_true rfl⟩),q3⟩,.cons h2 q4⟩
 | [],_ :: _,_,h,_=>h.elim
 | _ :: _,[],_,h,_=>h.elim
theorem Q57:∀ (more kvs:List (Key × V)),((kvs ++ more).map (·.1)).Nodup → mergeK kvs more = kvs ++ more
 | [],kvs,_=>by rw [J7]; rfl
 | p :: r,kvs,h=>by
  have hp:valV kvs p.1 = none:=by
   cases c:valV kvs p.1 with
   | none=>rfl
   | some v =>
    have m:=valV_in c
    rw [Jg,Qm,List.nodup_append] at h
    exact absurd rfl (h.2.2 _ m _ Q5)
  show mergeK (putK kvs p.1 p.2) r = _
  rw [putK_new _ hp,Q57 r _ (by simpa using h),List.append_assoc]
  rfl
def Q56 (f:List Sl → Option (List (D × D) × List Sl)):List Sl → Option (D × List Sl):=fun δ=>(f δ).bind fun p=>(Q20 p.1).bind fun ks=>if ks.length ≤ 15 then some (.dict p.1,p.2) else none
theorem Q8s {f:List Sl → Option (List (D × D) × List Sl)} {M:List Nat} (h:PV X pos ks vs f M) (hall:ks.all (·.isSome) = true:=by rfl) (hl:ks.length = vs.length:=by rfl) (h0:ks ≠ []:=by intro z; cases z) (h15:ks.length ≤ 15:=by decide):NV X (.Dict ks vs pos) (Q56 f) M:=by
 obtain ⟨trs,pp,q⟩:=h
 refine ⟨_,pe_disp pp hall hl h0 h15,fun Y F H δ σ A S z δ' e Q k=>?_⟩
 unfold Q56 at e
 cases e1:f δ with
 | none=>rw [e1] at e; cases e
 | some w =>
  obtain ⟨ds,δ1⟩:=w
  rw [e1] at e
  simp only [Q1] at e
  cases e2:Q20 ds with
  | none=>rw [e2] at e; cases e
  | some kl =>
   rw [e2] at e
   simp only [Q1] at e
   split at e
   ·rename_i hz
    cases e
    intro p hp
    have S0:=S.laidO (o:=.dK []) hp
    refine q Y F _ δ σ A S0 ds _ e1 _ fun ps F2 H2 st S2 r=>?_
    have nA:∀ j,p ∉ A j:=fun j m=>S.isSome m hp
    have h2:H2 p = some (.dK []):=st.kp p _ upd_same fun i _ m=>nA i m
    have hF:F p = none:=S.sub.free hp
    have hF2:F2 p = none:=by
     cases c:F2 p with
     | none=>rfl
     | some o =>
      have:=st.nw p hF (by rw [c]; simp)
      rw [upd_same] at this
      cases this
    obtain ⟨kvs,q1,q2,q3,q4⟩:=r.keys e2
    have hk:kvs.length ≤ 15:=by
     have:=congrArg List.length q2
     rw [Q3] at this
     omega
    have em:mergeK [] kvs = kvs:=Q57 kvs [] (by rw [List.nil_append,q2]; exact q3)
    refine ⟨h2,kvs,q1,hk,?_⟩
    rw [em]
    refine k p F2 _ ⟨st.f,fun a e n=>?_,fun a o e n=>?_⟩ (S2.upd_free hF2 nA (S.fresh0 hp)) hp hF2 ⟨kvs,upd_same,q4⟩
    ·have:=st.nw a e n
     by_cases c:a = p
     ·subst c; exact hp
     ·rw [upd_ne c] at this; exact this
    ·have c:a ≠ p:=fun z=>by subst z; rw [hp] at e; cases e
     rw [upd_ne c]
     exact st.kp a o (by rw [upd_ne c]; exact e) n
   ·cases e
end
end Z
namespace Z
open PySem PySem.Spec PyProof.Rows L2
theorem Rps.reverse {K:PySem.W.Frag} {G:Hp}:∀ {xs:List V} {ds:List D},Rps K G xs ds → Rps K G xs.reverse ds.reverse
 | _,_,.nil=>.nil
 | x :: xs,d :: ds,.cons h r=>by
  rw [List.reverse_cons,List.reverse_cons]
  exact r.reverse.append (.cons h .nil)
end Z
namespace Z
open PySem PySem.Spec PyProof.Rows L2
section
variable {K:PySem.W.Frag} {Y:Fx} {F F' H H':Hp} {δ δ':List Sl} {σ:L2.St} {A:Nat → List Addr} {i:Nat} {R M:List Nat}
theorem QdB (S:SR K Y F H δ σ A) {p:Addr} {od:Obj} {u:HO} (hp:p ∈ A i) (hu:H p = some u) (st:Stp A M F (upd H p (.frz od u)) F' H'):Stp A M F H F' (upd H' p u):=by
 refine ⟨st.f,fun a e n=>?_,fun a o e n=>?_⟩
 ·have q:=st.nw a e n
  by_cases c:a = p
  ·subst c; rw [upd_same] at q; cases q
  ·rwa [upd_ne c] at q
 ·by_cases c:a = p
  ·subst c; rw [upd_same]; rw [hu] at e; exact e
  ·rw [upd_ne c]
   exact st.kp a o (by rw [upd_ne c]; exact e) n
theorem Qdf (S:SR K Y F H δ σ A) {p:Addr} {od:Obj} {u:HO} (hp:p ∈ A i) (hi:i ∉ M) (st:Stp A M F (upd H p (.frz od u)) F' H'):H' p = some (.frz od u) :=
 st.kp p _ upd_same fun j hj z=>by
  have:=S.dis j i p z hp
  subst this
  exact hi hj
theorem Vw.unl (S:SR K Y F' H' δ' σ A) {v:V} {d:D} {p:Addr} {u:HO} (hp:p ∈ A i) (hR:i ∉ R) (h:Vw K F' H' A R v d):Vw K F' (upd H' p u) A R v d:=by
 rcases h with h | ⟨j,hj,q,e,eA,o⟩
 ·exact .inl h
 ·refine .inr ⟨j,hj,q,e,eA,o.mono (Same.refl _) (upd_ne fun z=>?_)⟩
  subst z
  have:=S.dis j i q (by rw [eA]; simp) hp
  subst this
  exact hR hj
end
def fLk (i:Nat) (f:List Sl → Option (D × List Sl)):List Sl → Option (D × List Sl):=fun δ=>match δ[i]? with
 | some (.ow (.dict ds))=>(f (δ.set i (.lk ds))).bind fun p=>match p.2[i]? with
  | some (.lk es)=>some (p.1,p.2.set i (.ow (.dict es)))
  | _=>none
 | _=>f δ
section
variable {X:Cx} {e:Expr} {f:List Sl → Option (D × List Sl)} {R M:List Nat}
theorem Q7R (i:Nat) (h:EV X e f R M) (hR:i ∉ R:=by decide) (hM:i ∉ M:=by decide):EV X e (fLk i f) R M:=by
 obtain ⟨t,p,q⟩:=h
 refine ⟨_,Q9l p (pe_lock p),fun Y F H δ σ A S d δ' e Q k=>?_⟩
 unfold fLk at e
 split at e
 ·rename_i ds hd
  obtain ⟨pa,u,hA,hu,mu,w⟩:=S.lock hd
  have hp:pa ∈ A i:=by rw [hA]; simp
  refine .inr ⟨pa,u,hu,mu,fun od=>?_⟩
  cases e1:f (δ.set i (.lk ds)) with
  | none=>rw [e1] at e; cases e
  | some w1 =>
   obtain ⟨d1,δ1⟩:=w1
   rw [e1] at e
   simp only [Q1] at e
   split at e
   ·rename_i es he
    cases e
    refine q Y F _ _ σ A (w od) _ _ e1 _ fun v F1 H1 st S1 r=>?_
    have hz:=Qdf S hp hM st
    exact ⟨hz,k v F1 _ (QdB S hp hu st) (S1.unlock he hA hz) (Vw.unl S1 hp hR r)⟩
   ·cases e
 ·exact .inl (q Y F H δ σ A S d δ' e Q k)
end
end Z
namespace Z
open PySem PySem.Spec PyProof.Rows L2
def leI (a b:Int):Bool:=decide (a ≤ b)
def Q5T:D → Option D
 | .dict ds=>(Vu (ds.map (·.1))).bind fun ks=>if ks.length < 64 then some (.list ((ks.mergeSort leI).map Q0)) else none
 | _=>none
abbrev Q8o:List V → Hp → VK → Prop:=fun xs H Q=>∃ (a:Addr) (kvs:List (Key × V)) (ks:List Int),xs = [.ref a] ∧ Rd H a (.dK kvs) ∧ kvs.map (·.1) = ks.map Sum.inl ∧ ks.length < 64 ∧ ∀ (ys:List Int) (p:Addr),ys.Perm ks → ys.Pairwise (· ≤ ·) → H p = none → Q (.ref p) (upd H p (.lst (ys.map V.int)))
theorem Q95 {X:Cx} (hc:X.calm = true):CallR X (.builtin "sorted") Q8o:=call_sortedDI hc
theorem Q4Y {K:PySem.W.Frag} {G:Hp}:∀ {kvs:List (Key × V)} {ds:List (D × D)} {ks:List Int},RpK K G kvs ds → Vu (ds.map (fun p:D × D=>p.1)) = some ks → kvs.map (·.1) = ks.map Sum.inl
 | _,_,_,.nil,h=>by cases h; rfl
 | _,_,ks,.cons (k:=k) (r:=r) h r',e=>by
  cases k with
  | inl i =>
   simp only [Qm,Q4e,Vu] at e
   rename_i d ds'
   cases e1:Vu (List.map (fun p:D × D=>p.1) ds') with
   | none=>rw [e1] at e; cases e
   | some js =>
    rw [e1] at e
    cases e
    rw [Qm,Qm,Q4Y r' e1]
  | inr x=>cases e
theorem Q4G {ys ks:List Int} (p:ys.Perm ks) (h:ys.Pairwise (· ≤ ·)):ys = ks.mergeSort leI:=by
 have h2:(ks.mergeSort leI).Pairwise (fun a b=>leI a b = true):=List.pairwise_mergeSort (fun a b c h1 h2=>by simp [leI] at *; omega) (fun a b=>by simp [leI]; omega) ks
 have h3:(ks.mergeSort leI).Pairwise (· ≤ ·):=h2.imp fun h=>by simpa [leI] using h
 exact List.Perm.eq_of_pairwise (le:=(· ≤ ·)) (fun a b _ _ h1 h2=>Int.le_antisymm h1 h2) h h3 (p.trans (List.mergeSort_perm ks leI).symm)
theorem Q9K {X:Cx}:Q6D X Q8o (g1 Q5T):=by
 intro Y F H δ σ A R xs ds z S r hg Q k
 obtain ⟨d,rfl,hg'⟩:=Wh hg
 obtain ⟨v,rfl,rv⟩:=r.one
 clear hg
 unfold Q5T at hg'
 split at hg'
 ·rename_i ds'
  cases e1:Vu (ds'.map (·.1)) with
  | none=>rw [e1] at hg'; cases hg'
  | some ks =>
   rw [e1] at hg'
   simp only [Q1] at hg'
   split at hg'
   ·rename_i hl
    cases hg'
    obtain ⟨a,o,kvs,rfl,h1,h2⟩:=rv.dict S
    refine ⟨a,kvs,ks,rfl,.inr ⟨o,h1⟩,Q4Y h2 e1,hl,fun ys p hp hs hn=>?_⟩
    have e:=Q4G hp hs
    subst e
    exact k p F _ (Stp.laidO hn) (S.laidO hn) hn (S.sub.free hn) ⟨_,upd_same,Q2i _⟩
   ·cases hg'
 ·cases hg'
end Z
namespace Z
open PySem PySem.Spec PyProof.Rows L2
def loN:Option Int → Option Nat
 | none=>some 0
 | some (.ofNat n)=>some n
 | _=>none


end Z
namespace Z
open PySem PySem.Spec PyProof.Rows L2
abbrev Q02 (h:Heap) (z TI TO:Addr) (T:Addr) (f:Bool):Prop :=
 h.get? z = some { cls:=.type "zip",dict:=none,data:=.fields #[rawInt T,.bool f,.bool false,.ref TI,.ref TO],slots:=#[] }
section
variable {prog:Program} {w:World} {A:Around} {E:Value → Shared → Prop} {s:Shared} {z TI TO i1 i2 T:Addr} {f:Bool} {fp1 fp2:List Addr} {n1 n2 i:Nat} {P1 P2:Nat → Value → Prop} {St1 St2:Nat → Heap → Prop} {a1 a2:Value}
theorem QaE {a:Addr} {o:Obj} {Q:Option Obj → Shared → Prop} (ho:s.heap.get? a = some o) (h:Q (some o) s):wpAny (model prog w) A (loadIfAlive a) Q E s:=by
 intro Γ p hΓ
 show Sem.wp _ _ (.loadIfAlive a .pure) _ _ _ _
 rw [Sem.wp_loadIfAlive,ho]
 exact h
theorem Q53 (hz:Q02 s.heap z TI TO T f) (hT:∃ o,s.heap.get? T = some o) {Q:Bool → Shared → Prop}
  (hQ:∀ h',Q02 h' z TI TO T true → Heap.SameBut z s.heap h' → Q false { s with heap:=h' }):wpAny (model prog w) A (Builtin.SmallTypes.ownedTupleIsFree (.ref z)) Q E s:=by
 obtain ⟨oT,eT⟩:=hT
 unfold Builtin.SmallTypes.ownedTupleIsFree
 refine wpAny_bind (wpAny_field hz rfl (x:=rawInt T) rfl ?_)
 show wpAny _ _ (loadIfAlive ((T:Int)).toNat >>= _) _ _ s
 rw [Int.toNat_natCast]
 refine wpAny_bind (QaE eT ?_)
 simp only [Option.isNone_some,Qw,if_false]
 refine wpAny_bind (wpAny_field hz rfl (x:=.bool f) rfl ?_)
 cases f with
 | true =>
  rw [if_neg (by decide)]
  exact wpAny_pure (hQ s.heap hz ⟨rfl,fun _ _=>rfl⟩)
 | false =>
  rw [if_pos (by decide)]
  refine wpAny_bind (wpAny_setField_rec hz (by simp) fun h' hz' hs'=>?_)
  exact wpAny_pure (hQ h' hz' hs')
theorem Q8I {Q:Value → Shared → Prop} (S:ZipSep2 z TI TO i1 i2 fp1 fp2) (D1:Draws prog w A i1 fp1 n1 P1 St1) (D2:Draws prog w A i2 fp2 n2 P2 St2)
  (hz:Q02 s.heap z TI TO T f) (hT:∃ o,s.heap.get? T = some o) (hTI:IsTupOf2 s.heap TI (.ref i1) (.ref i2)) (st1:St1 i s.heap) (st2:St2 i s.heap) (hlt1:i < n1) (hlt2:i < n2)
  (hQ:∀ x1 x2 h' tk,P1 i x1 → P2 i x2 → Q02 h' z TI TO T true → St1 (i + 1) h' → St2 (i + 1) h' → IsTupOf2 h' s.heap.objs.size x1 x2 → h'.objs.size = s.heap.objs.size + 1 →
   (∀ c o,c ≠ z → c ≠ TO → c ≠ i1 → c ≠ i2 → s.heap.get? c = some o → h'.get? c = some o) → Q (.ref s.heap.objs.size) { s with heap:=h',toks:=tk }) :
  wpAny (model prog w) A (Builtin.«zip.__next__» ⟨[.ref z],[]⟩) (fun fin s'=>∃ v,fin = .done (.ret v) ∧ Q v s') E s:=by
 obtain ⟨hp,g,d,tk0,os⟩:=s
 show wpAny _ _ (field (.ref z) 2 >>= _) _ _ _
 refine wpAny_bind (wpAny_field hz rfl (x:=.bool false) rfl ?_)
 show wpAny _ _ (field (.ref z) 3 >>= _) _ _ _
 refine wpAny_bind (wpAny_field hz rfl (x:=.ref TI) rfl ?_)
 refine wpAny_bind (wpAny_seqItems hTI rfl ?_)
 show wpAny _ _ (Builtin.SmallTypes.ownedTupleIsFree (.ref z) >>= _) _ _ _
 refine wpAny_bind (Q53 hz hT fun g0 hz0 hs0=>?_)
 replace hs0:Heap.SameBut z hp g0:=hs0
 simp only [Qw,if_false]
 refine wpAny_bind ?_
 rw [← Array.forIn_toList]
 simp only [List.forIn_cons,List.forIn_nil]
 refine wpAny_bind (wpAny_bind (wpAny_holding ?_))
 show wpAny _ _ (Builtin.SmallTypes.nextOf (.ref i1) >>= _) _ _ ⟨g0,g,d,tk0,os⟩
 refine wpAny_bind (D1.item i _ _ _ hlt1 (D1.over st1 hs0 S.zf1) fun x1 p1 tk1 hx1 sn1 hp1=>wpAny_pure (wpAny_pure ?_))
 replace hp1:Heap.SameBut i1 g0 p1:=hp1
 refine wpAny_bind (wpAny_bind (wpAny_holding ?_))
 show wpAny _ _ (Builtin.SmallTypes.nextOf (.ref i2) >>= _) _ _ ⟨p1,g,d,tk1,os⟩
 refine wpAny_bind (D2.item i _ _ _ hlt2 (D2.over (D2.over st2 hs0 S.zf2) hp1 S.sep1_2) fun x2 p2 tk2 hx2 sn2 hp2=>wpAny_pure (wpAny_pure (wpAny_pure ?_)))
 replace hp2:Heap.SameBut i2 p1 p2:=hp2
 refine wpAny_bind (wpAny_newTuple ?_ (by show 2 ≤ sizeLine; decide))
 have hsz:p2.objs.size = hp.objs.size:=by rw [hp2.1,hp1.1,hs0.1]
 have hzz:Q02 p2 z TI TO T true:=hp2.extBut _ _ S.zi2 (hp1.extBut _ _ S.zi1 hz0)
 have hj1:St1 (i + 1) p2:=D1.over sn1 hp2 S.sep2_1
 have up:∀ c o,p2.get? c = some o → (p2.push { cls:=.type "tuple",data:=.seq #[x1,x2] }).get? c = some o:=fun c o e=>Heap.get?_push_of_some _ e
 refine wpAny_pure ⟨_,rfl,?_⟩
 show Q (.ref p2.objs.size) ⟨p2.push { cls:=.type "tuple",data:=.seq #[x1,x2] },g,d,tk2,os⟩
 have hT8:IsTupOf2 (p2.push { cls:=.type "tuple",data:=.seq #[x1,x2] }) p2.objs.size x1 x2:=Heap.get?_push_size _ rfl
 rw [hsz] at hT8 ⊢
 exact hQ x1 x2 _ tk2 hx1 hx2 (up _ _ hzz) (D1.frame _ _ _ hj1 fun b _ o e=>up b o e) (D2.frame _ _ _ sn2 fun b _ o e=>up b o e) hT8 (by rw [Heap.size_push,hsz]) fun c o cz cT c1 c2 e =>
  up c o (hp2.extBut _ _ c2 (hp1.extBut _ _ c1 (hs0.extBut _ _ cz e)))
theorem Qay {Q:Fin → Shared → Prop} (S:ZipSep2 z TI TO i1 i2 fp1 fp2) (D1:Draws prog w A i1 fp1 n1 P1 St1) (D2:Draws prog w A i2 fp2 n2 P2 St2)
  (hz:Q02 s.heap z TI TO T f) (hT:∃ o,s.heap.get? T = some o) (hTI:IsTupOf2 s.heap TI (.ref i1) (.ref i2)) (st1:St1 i s.heap) (st2:St2 i s.heap) (hle1:i ≤ n1) (hle2:i ≤ n2) (hend:i = n1 ∨ i = n2)
  (hE:∀ h' tk e,(∀ c o,c ≠ z → c ≠ TO → c ≠ i1 → c ≠ i2 → s.heap.get? c = some o → h'.get? c = some o) → (∃ o,h'.get? e = some o ∧ o.cls = .type "StopIteration") → E (.ref e) { s with heap:=h',toks:=tk }) :
  wpAny (model prog w) A (Builtin.«zip.__next__» ⟨[.ref z],[]⟩) Q E s:=by
 obtain ⟨hp,g,d,tk0,os⟩:=s
 show wpAny _ _ (field (.ref z) 2 >>= _) _ _ _
 refine wpAny_bind (wpAny_field hz rfl (x:=.bool false) rfl ?_)
 show wpAny _ _ (field (.ref z) 3 >>= _) _ _ _
 refine wpAny_bind (wpAny_field hz rfl (x:=.ref TI) rfl ?_)
 refine wpAny_bind (wpAny_seqItems hTI rfl ?_)
 show wpAny _ _ (Builtin.SmallTypes.ownedTupleIsFree (.ref z) >>= _) _ _ _
 refine wpAny_bind (Q53 hz hT fun g0 hz0 hs0=>?_)
 replace hs0:Heap.SameBut z hp g0:=hs0
 simp only [Qw,if_false]
 refine wpAny_bind ?_
 rw [← Array.forIn_toList]
 simp only [List.forIn_cons,List.forIn_nil]
 refine wpAny_bind (wpAny_bind (wpAny_holding ?_))
 show wpAny _ _ (Builtin.SmallTypes.nextOf (.ref i1) >>= _) _ _ ⟨g0,g,d,tk0,os⟩
 by_cases hlt1:i < n1
 ·refine wpAny_bind (D1.item i _ _ _ hlt1 (D1.over st1 hs0 S.zf1) fun x1 p1 tk1 hx1 sn1 hp1=>wpAny_pure (wpAny_pure ?_))
  replace hp1:Heap.SameBut i1 g0 p1:=hp1
  refine wpAny_bind (wpAny_bind (wpAny_holding ?_))
  show wpAny _ _ (Builtin.SmallTypes.nextOf (.ref i2) >>= _) _ _ ⟨p1,g,d,tk1,os⟩
  have hi2:i = n2:=by omega
  refine wpAny_bind (D2.done ⟨p1,g,d,tk1,os⟩ _ _ (by rw [← hi2]; exact D2.over (D2.over st2 hs0 S.zf2) hp1 S.sep1_2) fun q e hq he=>?_)
  replace hq:Heap.ExtBut i2 p1 q:=hq
  exact hE q tk1 e (fun c o cz cT c1 c2 x=>hq _ _ c2 (hp1.extBut _ _ c1 (hs0.extBut _ _ cz x))) he
 ·have hi1:i = n1:=by omega
  refine wpAny_bind (D1.done ⟨g0,g,d,tk0,os⟩ _ _ (by rw [← hi1]; exact D1.over st1 hs0 S.zf1) fun q e hq he=>?_)
  replace hq:Heap.ExtBut i1 g0 q:=hq
  exact hE q tk0 e (fun c o cz cT c1 c2 x=>hq _ _ c1 (hs0.extBut _ _ cz x)) he
theorem Q9e {Q:Option Value → Shared → Prop} (S:ZipSep2 z TI TO i1 i2 fp1 fp2) (D1:Draws prog w A.in1 i1 fp1 n1 P1 St1) (D2:Draws prog w A.in1 i2 fp2 n2 P2 St2)
  (hz:Q02 s.heap z TI TO T f) (hT:∃ o,s.heap.get? T = some o) (hTI:IsTupOf2 s.heap TI (.ref i1) (.ref i2)) (st1:St1 i s.heap) (st2:St2 i s.heap) (hlt1:i < n1) (hlt2:i < n2)
  (hQ:∀ x1 x2 h' tk,P1 i x1 → P2 i x2 → Q02 h' z TI TO T true → St1 (i + 1) h' → St2 (i + 1) h' → IsTupOf2 h' s.heap.objs.size x1 x2 → h'.objs.size = s.heap.objs.size + 1 →
   (∀ c o,c ≠ z → c ≠ TO → c ≠ i1 → c ≠ i2 → s.heap.get? c = some o → h'.get? c = some o) → Q (some (.ref s.heap.objs.size)) { s with heap:=h',toks:=tk }) :
  wpAny (model prog w) A (pyNext (.ref z)) Q E s:=by
 have hTy:s.TypeIs (.ref z) "zip":=⟨_,hz,rfl⟩
 unfold pyNext
 exact wpAny_bind (wpAny_attempt (wpAny_callSpecial?_slot (name:=Str.ofString "__next__") hTy F.slot_zip_next
  (wpAny_call_entry F.slot_zip_next hTy F.entry_zip_next
   (Q8I S D1 D2 hz hT hTI st1 st2 hlt1 hlt2 fun x1 x2 h' tk y1 y2 b1 d1 d2 b5 b6 b7=>wpAny_pure (hQ x1 x2 h' tk y1 y2 b1 d1 d2 b5 b6 b7)) (F.args_zip_next_1 _))))
theorem Qaa {Q:Option Value → Shared → Prop} (S:ZipSep2 z TI TO i1 i2 fp1 fp2) (D1:Draws prog w A.in1 i1 fp1 n1 P1 St1) (D2:Draws prog w A.in1 i2 fp2 n2 P2 St2)
  (hz:Q02 s.heap z TI TO T f) (hT:∃ o,s.heap.get? T = some o) (hTI:IsTupOf2 s.heap TI (.ref i1) (.ref i2)) (st1:St1 i s.heap) (st2:St2 i s.heap) (hle1:i ≤ n1) (hle2:i ≤ n2) (hend:i = n1 ∨ i = n2)
  (hQ:∀ h' tk,(∀ c o,c ≠ z → c ≠ TO → c ≠ i1 → c ≠ i2 → s.heap.get? c = some o → h'.get? c = some o) → Q none { s with heap:=h',toks:=tk }):wpAny (model prog w) A (pyNext (.ref z)) Q E s:=by
 have hTy:s.TypeIs (.ref z) "zip":=⟨_,hz,rfl⟩
 unfold pyNext
 refine wpAny_bind (wpAny_attempt (wpAny_callSpecial?_slot (name:=Str.ofString "__next__") hTy F.slot_zip_next
  (wpAny_call_entry F.slot_zip_next hTy F.entry_zip_next (Qay S D1 D2 hz hT hTI st1 st2 hle1 hle2 hend fun h' tk e hk he=>?_) (F.args_zip_next_1 _))))
 obtain ⟨o,ho,hc⟩:=he
 refine wpAny_bind (wpAny_isInstance (T := "StopIteration") (b:=true) ⟨o,ho,hc⟩ isSubtype_stop ?_)
 exact wpAny_pure (hQ _ _ hk)
end
end Z
namespace Z
open PySem PySem.Spec PyProof.Rows L2 RT
theorem Q97:typeLookup (.type "zip") "__len__" = pure none:=by rw [typeLookup_type,builtinLookup_eq_fast]; kernel_rfl
theorem Q7a:typeLookup (.type "zip") "__length_hint__" = pure none:=by rw [typeLookup_type,builtinLookup_eq_fast]; kernel_rfl
structure QcO (N:Addr) (P1 P2:Nat → Value → Prop) (acc:Array Value) (i:Nat) (h:Heap) (ts:List Addr):Prop where
 ac:acc.toList = ts.map Value.ref
 nd:ts.Nodup
 ln:ts.length = i
 pr:∀ j T,ts[j]? = some T → N ≤ T ∧ ∃ x y,P1 j x ∧ P2 j y ∧ IsTupOf2 h T x y
structure ZS (N z TI TO i1 i2:Addr) (St1 St2:Nat → Heap → Prop) (i:Nat) (h:Heap):Prop where
 ti:IsTupOf2 h TI (.ref i1) (.ref i2)
 s1:St1 i h
 s2:St2 i h
 zz:(IsZip h z TI TO .none ∧ ∃ a1 a2,IsTupOf2 h TO a1 a2) ∨ ∃ T f,Q02 h z TI TO T f ∧ (∃ o,h.get? T = some o) ∧ N ≤ T
abbrev IsL (h:Heap) (S:Addr) (acc:Array Value) (c:Nat):Prop:=h.get? S = some { cls:=.type "list",dict:=none,data:=.seq acc c,slots:=#[] }
section
variable {prog:Program} {w:World} {A:Around} {E:Value → Shared → Prop} {z TI TO i1 i2:Addr} {fp1 fp2:List Addr} {n1 n2:Nat} {P1 P2:Nat → Value → Prop} {St1 St2:Nat → Heap → Prop}
theorem QbT {N:Addr} {i:Nat} {s:Shared} {Q:Option Value → Shared → Prop} (S:ZipSep2 z TI TO i1 i2 fp1 fp2) (D1:Draws prog w A.in1 i1 fp1 n1 P1 St1) (D2:Draws prog w A.in1 i2 fp2 n2 P2 St2)
  (lz:z < N) (lT:TO < N) (l1:i1 < N) (l2:i2 < N) (hN:N ≤ s.heap.objs.size) (hs:ZS N z TI TO i1 i2 St1 St2 i s.heap) (h1:i < n1) (h2:i < n2)
  (hQ:∀ x y h' tk,P1 i x → P2 i y → ZS N z TI TO i1 i2 St1 St2 (i + 1) h' → IsTupOf2 h' s.heap.objs.size x y → h'.objs.size = s.heap.objs.size + 1 →
   (∀ c o,c ≠ z → c ≠ TO → c ≠ i1 → c ≠ i2 → s.heap.get? c = some o → h'.get? c = some o) → Q (some (.ref s.heap.objs.size)) { s with heap:=h',toks:=tk }) :
  wpAny (model prog w) A (pyNext (.ref z)) Q E s:=by
 obtain ⟨ti,s1,s2,zz⟩:=hs
 rcases zz with ⟨hz,a1,a2,hTO⟩ | ⟨T,f,hz,hT,hTN⟩
 ·refine wpAny_pyNext_zipD2_item S D1 D2 hz ti hTO s1 s2 h1 h2 fun x y h' tk y1 y2 b1 b2 d1 d2 b5 b6 hk=>?_
  exact hQ x y h' tk y1 y2 ⟨hk _ _ S.TIz S.TITO S.TIi1 S.TIi2 ti,d1,d2,.inr ⟨_,false,b1,⟨_,b5⟩,hN⟩⟩ b5 b6 hk
 ·refine Q9e S D1 D2 hz hT ti s1 s2 h1 h2 fun x y h' tk y1 y2 b1 d1 d2 b5 b6 hk=>?_
  refine hQ x y h' tk y1 y2 ⟨hk _ _ S.TIz S.TITO S.TIi1 S.TIi2 ti,d1,d2,.inr ⟨_,true,b1,?_,hTN⟩⟩ b5 b6 hk
  obtain ⟨oT,eT⟩:=hT
  exact ⟨oT,hk _ _ (Qt (Qd lz hTN)) (Qt (Qd lT hTN)) (Qt (Qd l1 hTN)) (Qt (Qd l2 hTN)) eT⟩
theorem Qdg {N:Addr} {i:Nat} {s:Shared} {Q:Option Value → Shared → Prop} (S:ZipSep2 z TI TO i1 i2 fp1 fp2) (D1:Draws prog w A.in1 i1 fp1 n1 P1 St1) (D2:Draws prog w A.in1 i2 fp2 n2 P2 St2)
  (hs:ZS N z TI TO i1 i2 St1 St2 i s.heap) (h1:i ≤ n1) (h2:i ≤ n2) (he:i = n1 ∨ i = n2)
  (hQ:∀ h' tk,(∀ c o,c ≠ z → c ≠ TO → c ≠ i1 → c ≠ i2 → s.heap.get? c = some o → h'.get? c = some o) → Q none { s with heap:=h',toks:=tk }) :
  wpAny (model prog w) A (pyNext (.ref z)) Q E s:=by
 obtain ⟨ti,s1,s2,zz⟩:=hs
 rcases zz with ⟨hz,a1,a2,hTO⟩ | ⟨T,f,hz,hT,hTN⟩
 ·exact wpAny_pyNext_zipD2_end S D1 D2 hz ti hTO s1 s2 h1 h2 he hQ
 ·exact Qaa S D1 D2 hz hT ti s1 s2 h1 h2 he hQ
theorem Qbg {N L:Addr} {R:Result → Shared → Prop} {res:Value} (S:ZipSep2 z TI TO i1 i2 fp1 fp2) (D1:Draws prog w A.in1.in1 i1 fp1 n1 P1 St1) (D2:Draws prog w A.in1.in1 i2 fp2 n2 P2 St2)
  (lz:z < N) (lT:TO < N) (l1:i1 < N) (l2:i2 < N) (lL:L < N) (Lz:L ≠ z) (LTI:L ≠ TI) (LTO:L ≠ TO) (L1:L ∉ fp1) (L2:L ∉ fp2) (hn:min n1 n2 ≤ sizeLine) :
  ∀ (k i:Nat) (s:Shared) (acc:Array Value) (c:Nat) (ts:List Addr),min n1 n2 - i = k → i ≤ min n1 n2 → N ≤ s.heap.objs.size → ZS N z TI TO i1 i2 St1 St2 i s.heap → IsL s.heap L acc c → QcO N P1 P2 acc i s.heap ts →
   (∀ h' tk acc' c' ts',(∀ b o,b ≠ L → b ≠ z → b ≠ TO → b ≠ i1 → b ≠ i2 → s.heap.get? b = some o → h'.get? b = some o) → IsL h' L acc' c' → QcO N P1 P2 acc' (min n1 n2) h' ts' → R (.ok (.ret res)) { s with heap:=h',toks:=tk }) →
   codeAny (model prog w) A (.builtin "list.extend.loop" ⟨[.ref L,.ref z,res],[]⟩) R s:=by
 have Li1:L ≠ i1:=fun e=>L1 (e ▸ S.mem1)
 have Li2:L ≠ i2:=fun e=>L2 (e ▸ S.mem2)
 intro k
 induction k with
 | zero =>
  intro i s acc c ts hk hi hN hs hL ha hR
  have hin:i = min n1 n2:=by omega
  subst hin
  refine codeAny_builtin F.entry_extend_loop ?_
  rw [Around.under_plainId F.plain_extend_loop _]
  show wpAny _ A.in1 (pyNext (.ref z) >>= _) _ _ s
  refine wpAny_bind (Qdg S D1 D2 hs (by omega) (by omega) (by omega) fun h' tk hk=>?_)
  refine wpAny_pure (hR h' tk acc c ts (fun b o _ bz bT b1 b2 e=>hk b o bz bT b1 b2 e) (hk _ _ Lz LTO Li1 Li2 hL) ⟨ha.ac,ha.nd,ha.ln,fun j T hj=>?_⟩)
  obtain ⟨hT,x,y,p1,p2,p3⟩:=ha.pr j T hj
  exact ⟨hT,x,y,p1,p2,hk _ _ (Qt (Qd lz hT)) (Qt (Qd lT hT)) (Qt (Qd l1 hT)) (Qt (Qd l2 hT)) p3⟩
 | succ k ih =>
  intro i s acc c ts hk hi hN hs hL ha hR
  have hlt:i < min n1 n2:=by omega
  refine codeAny_builtin F.entry_extend_loop ?_
  rw [Around.under_plainId F.plain_extend_loop _]
  show wpAny _ A.in1 (pyNext (.ref z) >>= _) _ _ s
  refine wpAny_bind (QbT S D1 D2 lz lT l1 l2 hN hs (by omega) (by omega) fun x y h' tk y1 y2 hs' hT hsz hk'=>?_)
  have hL':IsL h' L acc c:=hk' _ _ Lz LTO Li1 Li2 hL
  show wpAny _ A.in1 (updateSeq L (·.push (.ref s.heap.objs.size)) >>= _) _ _ _
  have hacs:acc.size = i:=by rw [← Array.length_toList,ha.ac,Q3,ha.ln]
  have ou:∀ b o,b ≠ L → h'.get? b = some o → (h'.update L (Obj.mapSeq (·.push (.ref s.heap.objs.size)))).get? b = some o:=fun b o hb e=>(Heap.get?_update_other _ _ (Ne.symm hb)).trans e
  have Nge:∀ {T:Addr},N ≤ T → T ≠ L ∧ T ≠ z ∧ T ≠ TO ∧ T ≠ i1 ∧ T ≠ i2:=fun hT=>⟨Qt (Qd lL hT),Qt (Qd lz hT),Qt (Qd lT hT),Qt (Qd l1 hT),Qt (Qd l2 hT)⟩
  refine wpAny_bind ?_
  refine wpAny_updateSeq (s:={ s with heap:=h',toks:=tk }) hL' rfl (wpAny_pure ⟨plainId_quiet F.plain_extend_loop _,ih (i + 1) _ (acc.push (.ref s.heap.objs.size)) _ (ts ++ [s.heap.objs.size]) (by omega) hlt ?_ ?_ (Heap.get?_update_self _ hL' rfl) ?_ fun h2 tk2 acc' c' ts' hk2 hL2 ha2=>?_⟩)
   (by rw [hacs]; omega) (by show (acc.push _).size ≤ sizeLine + 1; rw [Array.size_push,hacs]; omega)
  ·show N ≤ (h'.update L _).objs.size
   rw [(Heap.SameBut.update ..).1,hsz]
   exact Nat.le_succ_of_le hN
  ·obtain ⟨ti,s1,s2,zz⟩:=hs'
   refine ⟨ou _ _ (Ne.symm LTI) ti,D1.frame _ _ _ s1 fun b hb o e=>ou b o (fun q=>L1 (q ▸ hb)) e,D2.frame _ _ _ s2 fun b hb o e=>ou b o (fun q=>L2 (q ▸ hb)) e,?_⟩
   rcases zz with ⟨hz,a1,a2,hTO⟩ | ⟨T,f,hz,⟨oT,eT⟩,hTN⟩
   ·exact .inl ⟨ou _ _ (Ne.symm Lz) hz,a1,a2,ou _ _ (Ne.symm LTO) hTO⟩
   ·exact .inr ⟨T,f,ou _ _ (Ne.symm Lz) hz,⟨oT,ou _ _ (Nge hTN).1 eT⟩,hTN⟩
  ·refine ⟨by rw [Array.toList_push,ha.ac,Jg]; rfl,?_,by rw [Qs,ha.ln]; rfl,fun j T hj=>?_⟩
   ·rw [List.nodup_append]
    refine ⟨ha.nd,by simp,fun a hm b hb=>?_⟩
    rw [Qj] at hb
    subst hb
    intro q
    subst q
    obtain ⟨j,hj⟩:=List.mem_iff_getElem?.mp hm
    obtain ⟨_,x',y',_,_,p3⟩:=ha.pr j _ hj
    exact Nat.lt_irrefl _ (Heap.lt_size p3)
   ·rcases Nat.lt_or_ge j ts.length with hj' | hj'
    ·rw [Qx hj'] at hj
     obtain ⟨hTN,x',y',p1,p2,p3⟩:=ha.pr j T hj
     have q:=Nge hTN
     exact ⟨hTN,x',y',p1,p2,ou _ _ q.1 (hk' _ _ q.2.1 q.2.2.1 q.2.2.2.1 q.2.2.2.2 p3)⟩
    ·rw [List.getElem?_append_right hj'] at hj
     have hji:j = i:=by
      rw [ha.ln] at hj hj'
      rcases Nat.lt_or_ge i j with c0 | c0
      ·rw [Qy (by simp; omega)] at hj; cases hj
      ·omega
     subst hji
     rw [ha.ln,Nat.sub_self] at hj
     cases hj
     exact ⟨hN,x,y,y1,y2,ou _ _ (Nge hN).1 hT⟩
  ·exact hR h2 tk2 acc' c' ts' (fun b o bL bz bT b1 b2 e=>hk2 b o bL bz bT b1 b2 (ou b o bL (hk' b o bz bT b1 b2 e))) hL2 ha2
end
end Z
namespace Z
open PySem PySem.Spec PyProof.Rows L2 RT
section
variable {prog:Program} {w:World} {A:Around} {E:Value → Shared → Prop} {s:Shared} {z TI TO i1 i2:Addr} {fp1 fp2:List Addr} {n1 n2:Nat} {P1 P2:Nat → Value → Prop} {St1 St2:Nat → Heap → Prop}
theorem Q9k {f0:Value} {Q:Bool → Shared → Prop} (hz:IsZip s.heap z TI TO f0) (h:Q true s):wpAny (model prog w) A (Builtin.List.listLengthHint (.ref z)) Q E s:=by
 have hT:s.TypeIs (.ref z) "zip":=⟨_,hz,rfl⟩
 unfold Builtin.List.listLengthHint
 refine wpAny_bind (wpAny_specialOf hT Q97 ?_)
 show wpAny _ _ (specialOf (Value.ref z) (Str.ofString "__length_hint__") >>= _) _ _ _
 refine wpAny_bind (wpAny_specialOf hT Q7a ?_)
 exact wpAny_pure h
theorem Qar {L:Addr} {R:Result → Shared → Prop} (S:ZipSep2 z TI TO i1 i2 fp1 fp2) (D1:Draws prog w A.in1.in1 i1 fp1 n1 P1 St1) (D2:Draws prog w A.in1.in1 i2 fp2 n2 P2 St2)
  (lz:z < s.heap.objs.size) (lT:TO < s.heap.objs.size) (l1:i1 < s.heap.objs.size) (l2:i2 < s.heap.objs.size) (Lz:L ≠ z) (LTI:L ≠ TI) (LTO:L ≠ TO) (L1:L ∉ fp1) (L2:L ∉ fp2) (hn:min n1 n2 ≤ sizeLine)
  (hz:IsZip s.heap z TI TO .none) (hTO:IsTupOf2 s.heap TO .none .none) (ti:IsTupOf2 s.heap TI (.ref i1) (.ref i2)) (s1:St1 0 s.heap) (s2:St2 0 s.heap)
  (hS:s.heap.get? L = some { cls:=.type "list",data:=.seq #[] })
  (hR:∀ (h':Heap) (tk:Nat) (acc:Array Value) (c:Nat) (ts:List Addr),(∀ b o,b ≠ L → b ≠ z → b ≠ TO → b ≠ i1 → b ≠ i2 → s.heap.get? b = some o → h'.get? b = some o) → IsL h' L acc c → QcO s.heap.objs.size P1 P2 acc (min n1 n2) h' ts → R (.ok (.ret .none)) { s with heap:=h',toks:=tk }) :
  wpAny (model prog w) A.in1 (Builtin.«list.__init__» ⟨[.ref L,.ref z],[]⟩)
   (fun fin s'=>match fin with | .done f=>R (.ok f) s' | .again c'=>c'.quiet = true ∧ codeAny (model prog w) A c' R s') (fun e s'=>R (.error e) s') s:=by
 have lL:L < s.heap.objs.size:=Heap.lt_size hS
 show wpAny _ A.in1 (do let old ← Builtin.List.listItems (.ref L); Builtin.List.listUpdate (.ref L) (fun _=>#[]); letGo old.toList.reverse; Builtin.List.listExtendWith (.ref L) (.ref z) .none) _ _ s
 refine wpAny_bind ?_
 unfold Builtin.List.listItems
 refine wpAny_bind (wpAny_seqItems hS rfl (wpAny_pure ?_))
 show wpAny _ A.in1 (updateSeq L (fun _=>#[]) >>= fun _=>letGo (#[]:Array Value).toList.reverse >>= fun _=>Builtin.List.listExtendWith (.ref L) (.ref z) .none) _ _ s
 refine wpAny_bind (wpAny_updateSeq hS rfl ?_)
 have hS₂:=Heap.get?_update_self (Obj.mapSeq (fun _=>(#[]:Array Value))) hS rfl
 have oth:∀ b o,b ≠ L → s.heap.get? b = some o → (s.heap.update L (Obj.mapSeq (fun _=>(#[]:Array Value)))).get? b = some o :=
  fun b o hb e=>(Heap.get?_update_other _ _ (Ne.symm hb)).trans e
 refine wpAny_bind (wpAny_letGo ?_)
 have sz1:(s.heap.update L (Obj.mapSeq (fun _=>(#[]:Array Value)))).objs.size = s.heap.objs.size:=(Heap.SameBut.update ..).1
 generalize hs1:({ s with heap:=s.heap.update L (Obj.mapSeq (fun _=>(#[]:Array Value))) }:Shared) = sA
 have szA:sA.heap.objs.size = s.heap.objs.size:=by subst hs1; exact sz1
 have othA:∀ b o,b ≠ L → s.heap.get? b = some o → sA.heap.get? b = some o:=by subst hs1; exact oth
 have hSA:sA.heap.get? L = some { cls:=.type "list",data:=.seq #[] }:=by subst hs1; exact hS₂
 have es:∀ h' tk,({ s with heap:=h',toks:=tk }:Shared) = { sA with heap:=h',toks:=tk }:=by
  subst hs1
  intro h' tk
  rfl
 have hzA:IsZip sA.heap z TI TO .none:=othA _ _ (Ne.symm Lz) hz
 have hT:sA.TypeIs (.ref z) "zip":=⟨_,hzA,rfl⟩
 have h1:Builtin.List.listSameRef (.ref L) (.ref z) = false:=by simp [Builtin.List.listSameRef,Lz]
 unfold Builtin.List.listExtendWith
 refine wpAny_bind (wpAny_typeOf hT ?_)
 rw [if_neg (by rw [h1]; decide)]
 refine wpAny_bind (wpAny_pyIter_zip hzA ?_)
 refine wpAny_bind (wpAny_holding (Q9k hzA ?_))
 rw [if_pos (by decide)]
 refine wpAny_bind (wpAny_bind (wpAny_rule ?_))
 unfold Builtin.List.listTouch
 refine wpAny_pure (wpAny_bind (wpAny_bind ?_))
 show wpAny _ A.in1 (updateSeq L (·.push .none)) _ _ sA
 refine wpAny_updateSeq hSA rfl ?_
 have hSB:=Heap.get?_update_self (Obj.mapSeq (·.push Value.none)) hSA rfl
 show wpAny _ A.in1 (updateSeq L (·.pop)) _ _ _
 refine wpAny_updateSeq (s:={ sA with heap:=sA.heap.update L (Obj.mapSeq (·.push .none)) }) hSB rfl ?_
 have hSC:=Heap.get?_update_self (h:=sA.heap.update L (Obj.mapSeq (·.push .none))) (Obj.mapSeq (·.pop)) hSB rfl
 have othC:∀ b o,b ≠ L → s.heap.get? b = some o → ((sA.heap.update L (Obj.mapSeq (·.push .none))).update L (Obj.mapSeq (·.pop))).get? b = some o :=
  fun b o hb e=>(Heap.get?_update_other _ _ (Ne.symm hb)).trans ((Heap.get?_update_other _ _ (Ne.symm hb)).trans (othA b o hb e))
 have szC:((sA.heap.update L (Obj.mapSeq (·.push .none))).update L (Obj.mapSeq (·.pop))).objs.size = s.heap.objs.size:=by
  rw [(Heap.SameBut.update ..).1,(Heap.SameBut.update ..).1,szA]
 have hSD:∃ c,IsL ((sA.heap.update L (Obj.mapSeq (·.push .none))).update L (Obj.mapSeq (·.pop))) L #[] c:=⟨_,hSC⟩
 clear hSC
 show wpAny _ A.in1 _ _ _ { sA with heap:=(sA.heap.update L (Obj.mapSeq (·.push .none))).update L (Obj.mapSeq (·.pop)) }
 revert othC szC hSD
 generalize (sA.heap.update L (Obj.mapSeq (·.push .none))).update L (Obj.mapSeq (·.pop)) = hC
 intro othC szC ⟨c,hSC⟩
 have loop:=Qbg (prog:=prog) (w:=w) (A:=A) (R:=R) (res:=.none) (N:=s.heap.objs.size) S D1 D2 lz lT l1 l2 lL Lz LTI LTO L1 L2 hn (min n1 n2) 0 { sA with heap:=hC } #[] c [] rfl (Ja _) (Nat.le_of_eq szC.symm)
  ⟨othC _ _ (Ne.symm LTI) ti,D1.frame _ _ _ s1 fun b hb o e=>othC b o (fun q=>L1 (q ▸ hb)) e,D2.frame _ _ _ s2 fun b hb o e=>othC b o (fun q=>L2 (q ▸ hb)) e,.inl ⟨othC _ _ (Ne.symm Lz) hz,_,_,othC _ _ (Ne.symm LTO) hTO⟩⟩
  hSC ⟨rfl,List.nodup_nil,rfl,fun j T hj=>by simp at hj⟩ fun h' tk acc' c' ts' hk hL ha=>by
   have:=hR h' tk acc' c' ts' (fun b o bL bz bT b1 b2 e=>hk b o bL bz bT b1 b2 (othC b o bL e)) hL ha
   rw [es] at this
   exact this
 exact wpAny_pure ⟨plainId_quiet F.plain_extend_loop _,loop⟩
end
end Z
namespace Z
open PySem PySem.Spec PyProof.Rows L2 RT
def Q0W (H:Hp) (L:List (Addr × HO)):Hp:=L.foldl (fun H p=>upd H p.1 p.2) H
theorem Q2U (H:Hp) (p:Addr × HO) (L:List (Addr × HO)):Q0W H (p :: L) = Q0W (upd H p.1 p.2) L:=rfl
theorem Q94 (H:Hp) (L:List (Addr × HO)) (p:Addr × HO):Q0W H (L ++ [p]) = upd (Q0W H L) p.1 p.2:=by
 unfold Q0W
 rw [List.foldl_append]
 rfl
theorem Q12:∀ (L:List (Addr × HO)) (H:Hp) {b:Addr},(∀ p ∈ L,b ≠ p.1) → Q0W H L b = H b
 | [],_,_,_=>rfl
 | p :: L,H,b,h=>by
  rw [Q2U,Q12 L _ fun q hq=>h q (Q4 _ hq),upd_ne (h p (Q5 ..))]
theorem Q41:∀ (L:List (Addr × HO)) (H:Hp) {b:Addr} {o:HO},Q0W H L b = some o → (b,o) ∈ L ∨ H b = some o
 | [],_,_,_,h=>.inr h
 | p :: L,H,b,o,h=>by
  rw [Q2U] at h
  rcases Q41 L _ h with h | h
  ·exact .inl (Q4 _ h)
  ·by_cases c:b = p.1
   ·subst c
    rw [upd_same] at h
    cases h
    exact .inl (Q5 ..)
   ·rw [upd_ne c] at h
    exact .inr h
section
variable {X:Cx} {pins:List (Addr × Obj)} {σ:L2.St} {H:Hp} {s:Shared} {h':Heap}
theorem Qb9 {t':Nat} (I:Inv X pins σ H s) (k:∀ b u,s.heap.get? b = some u → h'.get? b = some u) (L:List (Addr × HO)) (hp:∀ p ∈ L,s.heap.objs.size ≤ p.1)
  (new:∀ a o,(a,o) ∈ L → ObjOk X.prog X.w (Q0W H L) h' a o):Inv X pins σ (Q0W H L) { s with heap:=h',toks:=t' }:=by
 have out:∀ {b:Addr} {u:HO},H b = some u → Q0W H L b = some u:=fun {b u} e=>by
  rw [Q12 L H fun p hpm q=>?_]
  ·exact e
  ·have:=I.hok.fresh (hp p hpm)
   rw [← q,e] at this
   cases this
 refine I.un ⟨fun b o q _ _ _=>k b o q,fun b o q _ _ _=>⟨o.slots,k b o q⟩,fun b o q n _=>?_,fun b o q _=>⟨o,k b o q⟩,fun b xs q=>out q,fun b o u q=>out q,fun b ps q=>⟨#[],by rw [out q]; simp⟩⟩ fun b o e=>?_
 ·rw [Q12 L H fun p hpm=>J9 (Qd (Heap.lt_size q) (hp p hpm))]
  exact n
 ·rcases Q41 L H e with z | z
  ·exact new b o z
  ·exact (I.hok b o z).stay (fun c v _ q=>k c v q) (fun c q=>out q) fun c xs q=>out q
end
def Sq (K:PySem.W.Frag) (H:Hp) (x:V) (xs:List V):Prop:=∃ a,x = .ref a ∧ (SqL K H a xs ∨ SqT K H a xs)
theorem QaT {X:Cx} {pins:List (Addr × Obj)} {σ:L2.St} {H:Hp} {s:Shared} {x:V} {xs:List V} {u:Value} (I:Inv X pins σ H s) (r:RelV x u) (h:Sq X.K H x xs) :
  ∃ (o:Obj) (l:Addr) (its:List Value) (Hb:Heap → Prop),Begins u o Hb ∧ Hb s.heap ∧ l < s.heap.objs.size ∧ Vals xs its ∧ its.length ≤ sizeLine ∧
   ∀ (prog:Program) (w:World) (A:Around) (it:Addr),A.handled = none → l ≠ it → ∃ St:Nat → Heap → Prop,Draws prog w A it [it,l] its.length (fun i v=>its[i]? = some v) St ∧
    ∀ h',h'.get? it = some o → (∀ c o,s.heap.get? c = some o → h'.get? c = some o) → St 0 h':=by
 obtain ⟨a,rfl,h⟩:=h
 cases r
 rcases h with h | h
 ·obtain ⟨its,rv,p,hz⟩:=I.list h
  refine ⟨_,a,its,_,begins_list a its.toArray,p.isList,p.lt,rv,by rw [← rv.length]; exact hz,?_⟩
  intro prog w A it hh hne
  have D:Draws prog w A it [it,a] its.length (fun i v=>its[i]? = some v) (fun i h=>h.IsListIter it a i ∧ h.IsList a its.toArray):=by
   have:=Draws.list (prog:=prog) (w:=w) (A:=A) hh it a hne its.toArray
   simpa using this
  exact ⟨_,D,fun h' e k=>⟨⟨_,e,rfl,rfl⟩,p.isList.at fun o q=>k _ o q⟩⟩
 ·obtain ⟨its,rv,p,hz⟩:=I.tuple h
  have pt:s.heap.IsTuple a its.toArray:=p
  obtain ⟨ob,eo,_⟩:=id p
  refine ⟨_,a,its,_,begins_tuple a its.toArray,pt,Heap.lt_size eo,rv,by rw [← rv.length]; exact hz,?_⟩
  intro prog w A it hh hne
  have D:Draws prog w A it [it,a] its.length (fun i v=>its[i]? = some v) (fun i h=>h.IsTupleIter it a i ∧ h.IsTuple a its.toArray):=by
   have:=Draws.tuple (prog:=prog) (w:=w) (A:=A) hh it a hne its.toArray
   simpa using this
  exact ⟨_,D,fun h' e k=>⟨⟨_,e,rfl,rfl⟩,pt.at fun o q=>k _ o q⟩⟩
def prs (xs ys:List V):List HO:=(xs.zip ys).map fun p=>.tup [p.1,p.2]
def Qbr (K:PySem.W.Frag) (ta:TA):TE:=fun σ H Q=>ta σ H fun vs H1=>∃ x y xs ys,vs = [x,y] ∧ Sq K H1 x xs ∧ Sq K H1 y ys ∧
 ∀ (ts:List Addr) (q:Addr),ts.length = min xs.length ys.length → ts.Nodup → q ∉ ts → (∀ T ∈ ts,H1 T = none) → H1 q = none → Q (.ref q) (Q0W H1 (ts.zip (prs xs ys) ++ [(q,.lst (ts.map V.ref))]))
theorem Q4P:∀ ts:List Addr,Vals (ts.map V.ref) (ts.map Value.ref)
 | []=>.nil
 | t :: ts=>.cons (show RelV (V.ref t) (Value.ref t) from rfl) (Q4P ts)
theorem Q9b {X:Cx} {e e2:Expr} {ta:TA} {p p2 pos pos2:Pos} (hc:X.calm = true) (hg:Gl X "list") (hm:X.mg "list" = none) (hg2:Gl X "zip") (hm2:X.mg "zip" = none) (ha:PA X [e,e2] ta)
  (hs:starEach [e,e2] X.env = (false,eval e X.env) :: starEach [e2] X.env:=by rfl) (hpl:(backTo pos2 (starEach [e2] X.env)).any (·.1) = false:=by rfl)
  (hs2:starEach [.Call (.Name "zip" p2) [e,e2] [] pos2] X.env = (false,eval (.Call (.Name "zip" p2) [e,e2] [] pos2) X.env) :: starEach [] X.env:=by rfl) :
  PE X (.Call (.Name "list" p) [.Call (.Name "zip" p2) [e,e2] [] pos2] [] pos) (Qbr X.K ta):=by
 refine ⟨fun pins s σ H Q I h=>?_⟩
 refine Call_ (ld_blt I hg hm boot_list (PyProof.Rows.callWith_type1 (args_cons (Call_ (ld_blt I hg2 hm2 PyProof.Rows.boot_zip (PyProof.Rows.callWith_type1 (thn (ha.run pos2 pins s σ H _ I h) fun us s1 ⟨vs,H1,I1,r1,q1⟩=>?_) hs hpl))) hs2) hs2 rfl))
 obtain ⟨x,y,xs,ys,ev,hx,hy,q⟩:=q1
 subst ev
 cases r1 with
 | cons ra rr =>
 cases rr with
 | cons rb rr =>
 cases rr
 rename_i ua ub
 obtain ⟨o1,l1,its1,Hb1,B1,hb1,lt1,rv1,z1,D1⟩:=QaT I1 ra hx
 obtain ⟨o2,l2,its2,Hb2,B2,hb2,lt2,rv2,z2,D2⟩:=QaT I1 rb hy
 refine zip_begins2 B1 B2 hb1 hb2 fun h' hz hTI hTO g1 g2 hsz hk=>args_nil ?_
 have hh:=I1.ok.hd hc
 generalize hN:s1.heap.objs.size = N at *
 obtain ⟨St1,Dr1,st1⟩:=D1 X.prog X.w X.A.in1.in1.in1 N hh (J9 lt1)
 obtain ⟨St2,Dr2,st2⟩:=D2 X.prog X.w X.A.in1.in1.in1 (N + 1) hh (J9 (Nat.lt_succ_of_lt lt2))
 have S:=zip_sep2 (N:=N) (fp1:=[l1]) (fp2:=[l2]) (fun b hb=>by rw [Qj] at hb; subst hb; exact lt1) (fun b hb=>by rw [Qj] at hb; subst hb; exact lt2)
 refine callType_codes (Q₁:=fun obj s₁=>obj = .ref h'.objs.size ∧ s₁ = { s1 with heap:=h'.push { cls:=.type "list",data:=.seq #[] } }) F.called_list (F.typeCall_list_1 _) F.entry_list_init
  (code_list_new _ ⟨rfl,rfl⟩) fun obj s₁ h₁=>?_
 obtain ⟨rfl,rfl⟩:=h₁
 have kp:∀ b o,h'.get? b = some o → (h'.push { cls:=.type "list",data:=.seq #[] }).get? b = some o:=fun b o e=>Heap.get?_push_of_some _ e
 have hS:(h'.push { cls:=.type "list",data:=.seq #[] }).get? h'.objs.size = some { cls:=.type "list",data:=.seq #[] }:=Heap.get?_push_size _ rfl
 have sz6:(h'.push { cls:=.type "list",data:=.seq #[] }).objs.size = N + 6:=by rw [Heap.size_push,hsz]
 rw [hsz] at hS ⊢
 refine ⟨⟨_,hS,rfl⟩,F.args_list_init_2 _ _,Qar (A:=X.A.in1) (s:={ s1 with heap:=h'.push { cls:=.type "list",data:=.seq #[] } }) S Dr1 Dr2 ?_ ?_ ?_ ?_ ?_ ?_ ?_ ?_ ?_ ?_ (kp _ _ hz) (kp _ _ hTO) (kp _ _ hTI)
  (st1 _ (kp _ _ g1) fun c o e=>kp _ _ (hk c o e)) (st2 _ (kp _ _ g2) fun c o e=>kp _ _ (hk c o e)) hS fun h2 tk acc c ts hk2 hL hP=>?_⟩
 ·show N + 4 < (h'.push _).objs.size
  rw [sz6]
  exact J3 (by decide) N
 ·show N + 3 < (h'.push _).objs.size
  rw [sz6]
  exact J3 (by decide) N
 ·show N < (h'.push _).objs.size
  rw [sz6]
  exact Nat.lt_add_of_pos_right (by decide)
 ·show N + 1 < (h'.push _).objs.size
  rw [sz6]
  exact J3 (by decide) N
 ·exact Qt (J3 (by decide) N)
 ·exact Qt (J3 (by decide) N)
 ·exact Qt (J3 (by decide) N)
 ·intro hm
  rcases Q7.mp hm with e | hm
  ·exact absurd e (Qt (Nat.lt_add_of_pos_right (by decide)))
  ·rw [Qj] at hm
   exact absurd hm (Qt (Qd lt1 (J2 _ _)))
 ·intro hm
  rcases Q7.mp hm with e | hm
  ·exact absurd e (Qt (J3 (by decide) N))
  ·rw [Qj] at hm
   exact absurd hm (Qt (Qd lt2 (J2 _ _)))
 ·omega
 ·have hPN:∀ {j:Nat} {T:Addr},ts[j]? = some T → N + 6 ≤ T ∧ ∃ x y,its1[j]? = some x ∧ its2[j]? = some y ∧ IsTupOf2 h2 T x y:=fun {j T} hj=>by
   have:=hP.pr j T hj
   rw [show ({ s1 with heap:=h'.push { cls:=.type "list",data:=.seq #[] } }:Shared).heap.objs.size = N + 6 from sz6] at this
   exact this
  have hTN:∀ {T:Addr},T ∈ ts → N + 6 ≤ T:=fun {T} hT=>by
   obtain ⟨j,hj⟩:=List.mem_iff_getElem?.mp hT
   exact (hPN hj).1
  have kk:∀ b u,s1.heap.get? b = some u → h2.get? b = some u:=fun b u e=>by
   have lt:b < N:=by rw [← hN]; exact Heap.lt_size e
   exact hk2 b u (J9 (Qd lt (J2 _ _))) (J9 (Qd lt (J2 _ _))) (J9 (Qd lt (J2 _ _))) (J9 lt) (J9 (Qd lt (J2 _ _))) (kp b u (hk b u e))
  have lz:ts.length ≤ sizeLine:=by rw [hP.ln]; omega
  have frN:∀ {T:Addr},N ≤ T → H1 T = none:=fun {T} hT=>I1.hok.fresh (by rw [hN]; exact hT)
  refine ⟨rfl,.ref (N + 5),_,Qb9 (t':=tk) I1 kk (ts.zip (prs xs ys) ++ [((N + 5:Nat),.lst (ts.map V.ref))]) (fun p hp=>?_) (fun a o ho=>?_),rfl,q ts (N + 5) ?_ hP.nd ?_ (fun T hT=>frN (Qr (J2 _ _) (hTN hT))) (frN (J2 _ _))⟩
  ·rw [hN]
   rcases Q9.mp hp with hp | hp
   ·exact Qr (J2 _ _) (hTN (List.of_mem_zip hp).1)
   ·rw [Qj] at hp
    subst hp
    exact J2 _ _
  ·rcases Q9.mp ho with ho | ho
   ·obtain ⟨j,hj⟩:=List.mem_iff_getElem?.mp ho
    rw [List.getElem?_zip_eq_some] at hj
    obtain ⟨hj1,hj2⟩:=hj
    dsimp only at hj1 hj2
    obtain ⟨_,x',y',e1,e2,e3⟩:=hPN hj1
    unfold prs at hj2
    rw [Qo] at hj2
    cases e4:(xs.zip ys)[j]? with
    | none=>rw [e4] at hj2; cases hj2
    | some pq =>
     rw [e4] at hj2
     cases hj2
     rw [List.getElem?_zip_eq_some] at e4
     obtain ⟨u1,a1,b1⟩:=rv1.get e4.1
     obtain ⟨u2,a2,b2⟩:=rv2.get e4.2
     rw [e1] at a1
     rw [e2] at a2
     cases a1
     cases a2
     exact ⟨by show 2 ≤ sizeLine; decide,[x',y'],.cons b1 (.cons b2 .nil),⟨_,e3,rfl,_,rfl⟩⟩
   ·rw [Qj] at ho
    cases ho
    refine ⟨by rw [Q3]; exact lz,acc.toList,c,by rw [hP.ac]; exact Q4P ts,?_⟩
    rw [Array.toArray_toList]
    exact hL
  ·rw [hP.ln,rv1.length,rv2.length]
  ·intro hm
   have:=hTN hm
   exact absurd this (Nat.not_le_of_lt (J3 (by decide) N))
end Z
namespace Z
open PySem PySem.Spec PyProof.Rows L2
section
variable {K:PySem.W.Frag} {Y:Fx} {δ:List Sl} {σ:L2.St} {A:Nat → List Addr}
theorem Q4Z:∀ (L:List (Addr × HO)) {F H:Hp},SR K Y F H δ σ A → (L.map (·.1)).Nodup → (∀ p ∈ L,H p.1 = none) →
  SR K Y (Q0W F L) (Q0W H L) δ σ A ∧ Stp A [] F H (Q0W F L) (Q0W H L) ∧ (∀ p ∈ L,Q0W F L p.1 = some p.2)
 | [],F,H,S,_,_=>⟨S,Stp.refl,fun _ h=>nomatch h⟩
 | p :: L,F,H,S,nd,fr=>by
  rw [Qm,List.nodup_cons] at nd
  have hp:=fr p (Q5 ..)
  have S1:SR K Y (upd F p.1 p.2) (upd H p.1 p.2) δ σ A:=S.laid hp
  have st1:Stp A [] F H (upd F p.1 p.2) (upd H p.1 p.2):=Stp.laid S hp
  have fr1:∀ q ∈ L,upd H p.1 p.2 q.1 = none:=fun q hq=>by
   rw [upd_ne (fun e=>nd.1 (Qp.mpr ⟨q,hq,e⟩))]
   exact fr q (Q4 _ hq)
  obtain ⟨a,b,c⟩:=Q4Z L S1 nd.2 fr1
  refine ⟨a,Y3 S1 st1 b,fun q hq=>?_⟩
  rcases Q7.mp hq with rfl | hq
  ·rw [Q2U,Q12 L _ fun r hr e=>nd.1 (Qp.mpr ⟨r,hr,e.symm⟩)]
   exact upd_same
  ·exact c q hq
end
def sqD:D → Option (List D)
 | .list ds=>some ds
 | .tuple ds=>some ds
 | _=>none
def Q6e (p:D × D):D:=.tuple [p.1,p.2]
def Q82:List D → Option D
 | [d,e]=>(sqD d).bind fun a=>(sqD e).map fun b=>.list ((a.zip b).map Q6e)
 | _=>none
theorem Qcl {K:PySem.W.Frag} {Y:Fx} {F H:Hp} {δ:List Sl} {σ:L2.St} {A:Nat → List Addr} {R:List Nat} {v:V} {d:D} {ds:List D} (S:SR K Y F H δ σ A) (r:Vw K F H A R v d) (h:sqD d = some ds):∃ xs,Sq K H v xs ∧ Rps K F xs ds:=by
 unfold sqD at h
 split at h
 ·cases h
  obtain ⟨a,xs,rfl,h1,h2⟩:=r.list S
  exact ⟨xs,⟨a,rfl,.inl (SqL.of h1)⟩,h2⟩
 ·cases h
  obtain ⟨a,xs,rfl,h0,h1,h2⟩:=r.tup S
  exact ⟨xs,⟨a,rfl,.inr h1⟩,h2⟩
 ·cases h
theorem Q4V {K:PySem.W.Frag} {F':Hp}:∀ {ts:List Addr} {xs ys:List V} {ds es:List D},Rps K F' xs ds → Rps K F' ys es → ts.length = min xs.length ys.length → (∀ p ∈ ts.zip (prs xs ys),F' p.1 = some p.2) → Rps K F' (ts.map V.ref) ((ds.zip es).map Q6e)
 | [],xs,ys,ds,es,r1,r2,hl,_=>by
  have e1:=r1.length
  have e2:=r2.length
  have:(ds.zip es) = []:=by
   apply List.eq_nil_of_length_eq_zero
   rw [List.length_zip]
   simp only [Qu] at hl
   omega
  rw [this]
  exact .nil
 | t :: ts,x :: xs,y :: ys,d :: ds,e :: es,.cons a1 r1,.cons a2 r2,hl,h=>by
  have h0:F' t = some (.tup [x,y]):=h (t,.tup [x,y]) (Q5 ..)
  refine .cons (.tup (.inl (.inl h0)) (.cons a1 (.cons a2 .nil))) (Q4V r1 r2 (by simp only [Qe] at hl; omega) fun p hp=>h p (Q4 _ hp))
 | t :: ts,[],ys,ds,es,_,_,hl,_=>by simp at hl
 | t :: ts,x :: xs,[],ds,es,_,_,hl,_=>by simp at hl
theorem Q8R {X:Cx} {e e2:Expr} {f} {R M:List Nat} {p p2 pos pos2:Pos} (hc:X.calm = true) (hb:Gl X "list" ∧ X.mg "list" = none) (hz:Gl X "zip" ∧ X.mg "zip" = none) (ha:AV X [e,e2] f R M)
  (hs:starEach [e,e2] X.env = (false,eval e X.env) :: starEach [e2] X.env:=by rfl) (hpl:(backTo pos2 (starEach [e2] X.env)).any (·.1) = false:=by rfl)
  (hs2:starEach [.Call (.Name "zip" p2) [e,e2] [] pos2] X.env = (false,eval (.Call (.Name "zip" p2) [e,e2] [] pos2) X.env) :: starEach [] X.env:=by rfl) :
  NV X (.Call (.Name "list" p) [.Call (.Name "zip" p2) [e,e2] [] pos2] [] pos) (fA Q82 f) M:=by
 obtain ⟨t,pe,q⟩:=ha
 refine ⟨_,Q9b hc hb.1 hb.2 hz.1 hz.2 pe hs hpl hs2,fun Y F H δ σ A S z δ' e0 Q k=>?_⟩
 obtain ⟨ds,e1,e3⟩:=Q2w e0
 unfold Q82 at e3
 split at e3
 ·rename_i d e'
  cases e4:sqD d with
  | none=>rw [e4] at e3; cases e3
  | some a =>
  cases e5:sqD e' with
  | none=>rw [e4,e5] at e3; cases e3
  | some b =>
  rw [e4,e5] at e3
  cases e3
  refine q Y F H δ σ A S _ δ' e1 _ fun vs F1 H1 st1 S1 r1=>?_
  obtain ⟨v,u,rfl,ra,rb⟩:=r1.two
  obtain ⟨xs,hx,r2⟩:=Qcl S1 ra e4
  obtain ⟨ys,hy,r3⟩:=Qcl S1 rb e5
  refine ⟨v,u,xs,ys,rfl,hx,hy,fun ts qa hl nd nq fr fq=>?_⟩
  have hpl:(prs xs ys).length = min xs.length ys.length:=by unfold prs; rw [Q3,List.length_zip]
  have hmap:(ts.zip (prs xs ys)).map (·.1) = ts:=by
   rw [List.map_fst_zip]
   omega
  have fr2:∀ p ∈ ts.zip (prs xs ys),H1 p.1 = none:=fun p hp=>fr _ (List.of_mem_zip hp).1
  obtain ⟨S2,st2,hF⟩:=Q4Z (ts.zip (prs xs ys)) S1 (by rw [hmap]; exact nd) fr2
  have fq2:Q0W H1 (ts.zip (prs xs ys)) qa = none:=by
   rw [Q12 _ _ fun p hp (e:qa = p.1)=>nq (by rw [e]; exact (List.of_mem_zip hp).1)]
   exact fq
  have st3:=Y3 S1 st1 st2
  rw [Q94]
  refine k qa _ _ (Y3 S2 st3 (Stp.laidO fq2)) (S2.laidO fq2) (Q4z st1 S1 fq) (S2.sub.free fq2) ⟨_,upd_same,?_⟩
  exact Q4V (r2.mono st2.f) (r3.mono st2.f) hl hF
 ·cases e3
end Z
namespace Z
open PySem PySem.Spec PyProof.Rows L2

end Z
namespace Z
open PySem PySem.Spec PyProof.Rows L2


end Z
namespace Z
open PySem PySem.Spec PyProof.Rows L2


end Z
namespace Z
open PySem PySem.Spec PyProof.Rows L2


end Z
namespace PySem
open Sem (wp)
end PySem
namespace L2
open PySem PySem.Spec PyProof.Rows
end L2
namespace Z
open PySem PySem.Spec PyProof.Rows L2
variable {X:Cx}
end Z
namespace Z
open PySem PySem.Spec PyProof.Rows L2
variable {X:Cx} {pos:Pos}
def Q5c (T:Tt) (f:List Sl → Option (D × List Sl)):List Sl → Option Out:=fun δ=>(f δ).bind fun p=>match p.1 with
 | .list ds=>(Y2 T ds p.2).map .nx
 | _=>none
theorem Qb2 {io:Iom} {fr:Fr} {es:List Expr} {kk:Nat} {tpos:Pos} {e:Expr} {T:Tt} {f} {M:List Nat} {n:Nat} (hc:X.calm = true) (hT:∀ j ∈ tS T,io j = false) (h:EV X e f [] M) (hg:GsV X es T) (hn:(assignEach es X.env).length = n) (hlen:∀ ds δ δ',Y2 T ds δ = some δ' → ds.length = n)
  (hst:(assignEach es X.env).findIdx? (·.1) = none:=by rfl) (hs:swapsWithSole [.Tuple es kk tpos] e pos.line X.env = pure false:=by rfl) (hw:swappedStores [.Tuple es kk tpos] e X.env = pure none:=by rfl)
  (h1:(assignEach [.Tuple es kk tpos] X.env).map (·.2) = [assign (.Tuple es kk tpos) X.env]:=by rfl):SV X io fr (.Assign [.Tuple es kk tpos] e pos) (Q5c T f):=by
 obtain ⟨t,p,q⟩:=h
 obtain ⟨g,pg,qg⟩:=hg
 refine ⟨_,ps_asg p (pg_unl hc pg hn hst) hs hw h1,fun Y F H δ σ A hY S o e D k=>?_⟩
 unfold Q5c at e
 cases e1:f δ with
 | none=>rw [e1] at e; cases e
 | some w =>
  obtain ⟨d,δ1⟩:=w
  rw [e1] at e
  simp only [Q1] at e
  split at e
  ·rename_i ds
   cases e2:Y2 T ds δ1 with
   | none=>rw [e2] at e; cases e
   | some δ2 =>
    rw [e2] at e
    cases e
    refine q Y F H δ σ A S _ δ1 e1 _ fun v F1 H1 st S1 r=>?_
    obtain ⟨a,xs,rfl,h1,h2⟩:=r.listE S1
    refine ⟨a,xs,rfl,SqL.of (Q0o S1 _ _ h1),by rw [h2.length]; exact hlen _ _ _ e2,?_⟩
    exact qg Y F1 H1 δ1 σ A (fun j hj=>by rw [hY]; exact hT j hj) S1 xs _ δ2 h2 e2 _ fun σ' A' _ S2=>k _ F1 H1 A' st.f S2
  ·cases e
theorem Q9Y {io:Iom} {fr:Fr} {es:List Expr} {kk:Nat} {tpos:Pos} {e:Expr} {T:Tt} {f} {M:List Nat} (hc:X.calm = true) (hT:∀ j ∈ tS T,io j = false) (h:EV X e f [] M) (hg:GsV X es T) (hT2:∀ i,T ≠ .nm i:=by intro _ z; cases z) (ok:tOk T = true:=by rfl) (hn:(assignEach es X.env).length = tN T:=by rfl)
  (hst:(assignEach es X.env).findIdx? (·.1) = none:=by rfl) (hs:swapsWithSole [.Tuple es kk tpos] e pos.line X.env = pure false:=by rfl) (hw:swappedStores [.Tuple es kk tpos] e X.env = pure none:=by rfl)
  (h1:(assignEach [.Tuple es kk tpos] X.env).map (·.2) = [assign (.Tuple es kk tpos) X.env]:=by rfl):SV X io fr (.Assign [.Tuple es kk tpos] e pos) (Q5c T f) :=
 Qb2 hc hT h hg hn (fun ds δ δ' e=>Q7k T ds δ δ' hT2 ok e) hst hs hw h1
end Z
set_option exponentiation.threshold 4000
namespace Z
open PySem PySem.Spec PyProof.Rows L2
def Mk (m:Nat):Prop:=m = 7 ∨ m = 31 ∨ m = 127 ∨ m = 511 ∨ m = 2047
def orb (m:Nat):Nat → Nat → Nat → Nat
 | 0,_,acc=>acc
 | n + 1,x,acc=>orb m n ((x * 5 + 1) % (m + 1)) (acc ||| (1 <<< x))
theorem Q4J (m x:Nat):∀ k,lcgI m ((x * 5 + 1) % (m + 1)) k = lcgI m x (k + 1)
 | 0=>rfl
 | k + 1=>by
  show (lcgI m ((x * 5 + 1) % (m + 1)) k * 5 + 1) % (m + 1) = (lcgI m x (k + 1) * 5 + 1) % (m + 1)
  rw [Q4J m x k]
theorem Q86 (m j:Nat):∀ (n x acc:Nat),(orb m n x acc).testBit j = true → acc.testBit j = true ∨ ∃ k,k < n ∧ lcgI m x k = j
 | 0,_,_,h=>.inl h
 | n + 1,x,acc,h=>by
  rcases Q86 m j n _ _ h with q | ⟨k,hk,e⟩
  ·rw [Nat.testBit_or,J8] at q
   rcases q with q | q
   ·exact .inl q
   ·rw [Nat.one_shiftLeft,Nat.testBit_two_pow] at q
    exact .inr ⟨0,Nat.succ_pos _,of_decide_eq_true q⟩
  ·rw [Q4J] at e
   exact .inr ⟨k + 1,Nat.succ_lt_succ hk,e⟩
theorem QdM:(orb 7 8 0 0 == 2 ^ 8 - 1) = true:=by decide +kernel
theorem Qd7:(orb 31 32 0 0 == 2 ^ 32 - 1) = true:=by decide +kernel
theorem Qc9:(orb 127 128 0 0 == 2 ^ 128 - 1) = true:=by decide +kernel
theorem Qb6:(orb 511 512 0 0 == 2 ^ 512 - 1) = true:=by decide +kernel
theorem Q9R:(orb 2047 2048 0 0 == 2 ^ 2048 - 1) = true:=by decide +kernel
theorem Q10 {m j:Nat} (e:(orb m (m + 1) 0 0 == 2 ^ (m + 1) - 1) = true) (hj:j ≤ m):∃ k,k ≤ m ∧ lcgN m k = j:=by
 have e':=eq_of_beq e
 have b:(orb m (m + 1) 0 0).testBit j = true:=by
  rw [e',Nat.testBit_two_pow_sub_one]
  exact decide_eq_true (Nat.lt_succ_of_le hj)
 rcases Q86 m j _ _ _ b with q | ⟨k,hk,q⟩
 ·simp at q
 ·refine ⟨k,Nat.le_of_lt_succ hk,?_⟩
  have:=lcgN_add m 0 k
  rw [Nat.zero_add] at this
  rw [← this]
  exact q
theorem Q8u {m j:Nat} (hm:Mk m) (hj:j ≤ m):∃ k,k ≤ m ∧ lcgN m k = j:=by
 rcases hm with e | e | e | e | e
 ·subst e; exact Q10 QdM hj
 ·subst e; exact Q10 Qd7 hj
 ·subst e; exact Q10 Qc9 hj
 ·subst e; exact Q10 Qb6 hj
 ·subst e; exact Q10 Q9R hj
theorem Qc1 {m:Nat} (hm:Mk m):lcgN m (m + 1) = 0:=by
 rcases hm with e | e | e | e | e
 ·subst e; decide +kernel
 ·subst e; decide +kernel
 ·subst e; decide +kernel
 ·subst e; decide +kernel
 ·subst e; decide +kernel
theorem Q6E {m:Nat} (hm:Mk m):∀ k,lcgN m (m + 1 + k) = lcgN m k
 | 0=>Qc1 hm
 | k + 1=>by
  have ih:=Q6E hm k
  show (lcgN m (m + 1 + k) * 5 + 1) % (m + 1) = _
  rw [ih]
  rfl
theorem Q9c {m i j:Nat} (hm:Mk m) (hi:i ≤ m) (hj:j ≤ m):∃ k,k ≤ m ∧ lcgI m i k = j:=by
 obtain ⟨p,hp,ep⟩:=Q8u hm hi
 obtain ⟨q,hq,eq⟩:=Q8u hm hj
 subst ep
 by_cases c:p ≤ q
 ·refine ⟨q - p,by omega,?_⟩
  rw [lcgN_add,← eq]
  congr 1
  omega
 ·refine ⟨q + (m + 1) - p,by omega,?_⟩
  rw [lcgN_add,← eq,← Q6E hm q]
  congr 1
  omega
theorem Q7s {m:Nat} (hm:Mk m) (h:Int) {j:Nat} (hj:j ≤ m):∃ n,n ≤ m + 12 ∧ runI m (SetTable.bits h) n = j:=by
 obtain ⟨k,hk,e⟩:=Q9c hm (runI_le m (SetTable.bits h) 12) hj
 refine ⟨12 + k,by omega,?_⟩
 rw [runI_tail (bits_lt h)]
 exact e
theorem Q8Q {m:Nat} (hm:Mk m) (h:Int) {j:Nat} (hj:j ≤ m):∃ k,k < 10 * SetTable.turns m ∧ way m h k = j:=by
 obtain ⟨n,hn,e⟩:=Q7s hm h hj
 obtain ⟨k,hk,e2⟩:=run_nth m (SetTable.bits h) n
 have ht:n < SetTable.turns m:=by unfold SetTable.turns; omega
 refine ⟨k,by omega,?_⟩
 show (nth m _ k).j = j
 rw [e2]
 exact e
structure Tab (t:SetTable) (hs:List Int):Prop where
 ord:Ris t.place.toList
 nod:t.dummies = #[]
 siz:t.place.size = hs.length
 okm:Mk t.mask
 low:∀ x ∈ t.place.toList,x ≤ t.mask
 met:∀ (i:Nat) (h:Int) (j:Nat),hs[i]? = some h → t.place.toList[i]? = some j → ∃ k,way t.mask h k = j ∧ ∀ c,c < k → way t.mask h c ∈ t.place.toList
theorem Tab.len {t:SetTable} {hs:List Int} (T:Tab t hs):t.place.toList.length = hs.length:=T.siz
theorem Mk.le {m:Nat} (h:Mk m):m ≤ 2047:=by
 rcases h with e | e | e | e | e <;> subst e <;> decide
theorem Tab.gap {t:SetTable} {hs:List Int} (T:Tab t hs) (hl:hs.length ≤ t.mask) (h:Int):∃ G,G < 10 * SetTable.turns t.mask ∧ way t.mask h G ∉ t.place.toList ∧ ∀ c,c < G → way t.mask h c ∈ t.place.toList:=by
 obtain ⟨j,hj,out⟩:=st_missing t.place.toList (t.mask + 1) (by rw [T.len]; omega)
 obtain ⟨k,hk,e⟩:=Q8Q T.okm h (Nat.le_of_lt_succ hj)
 subst e
 obtain ⟨G,g1,g2,g3⟩:=st_least (p:=fun c=>way t.mask h c ∉ t.place.toList) k out
 exact ⟨G,by omega,g2,fun c hc=>Decidable.byContradiction fun z=>g3 c hc z⟩
end Z
namespace Z
open PySem PySem.Spec PyProof.Rows L2
section
variable {P:Program} {w:World} {A:Around} {E:Value → Shared → Prop} {s:Shared}
def Q4M (P:Program) (w:World) (n:Nat) (s:Shared) (v:Value):Prop:=∀ (A:Around) (E:Value → Shared → Prop) (Q:Bool → Shared → Prop),Q false s → wpAny (model P w) A (ofAClassStatement n v) Q E s
def Q1h (P:Program) (w:World) (n:Nat) (s:Shared) (v:Value):Prop:=∀ (A:Around) (E:Value → Shared → Prop) (Q:Bool → Shared → Prop),(∀ b,Q b s) → wpAny (model P w) A (hashByValue n v) Q E s
theorem Q4M.tup {n:Nat} {a:Addr} {o:Obj} {vs:Array Value} {m:Nat} (ho:s.heap.get? a = some o) (hc:o.cls = .type "tuple") (hd:o.data = .seq vs m) (hv:∀ v ∈ vs.toList,Q4M P w n s v):Q4M P w (n + 1) s (.ref a):=fun A E Q q=>by
 have ty:s.TypeIs (.ref a) "tuple":=⟨o,ho,hc⟩
 unfold ofAClassStatement
 refine wpAny_bind (wpAny_typeOf ty ?_)
 dsimp only
 have tt:(("tuple":String) == "tuple") = true:=by decide
 simp only [tt,if_true,Bool.not_true,Qw,if_false]
 try refine wpAny_bind (wpAny_pure ?_)
 try simp only [Bool.not_true,Qw,if_false]
 show wpAny (model P w) A (seqItems? (.ref a) >>= _) Q E s
 refine wpAny_bind (wpAny_seqItems ho hd ?_)
 dsimp only
 refine wpAny_bind ?_
 show wpAny (model P w) A (forIn vs _ _) _ E s
 rw [← Array.forIn_toList]
 refine wpAny_forIn_list _ (fun l b s'=>s' = s ∧ b.1 = none ∧ ∀ v ∈ l,Q4M P w n s v) _ (fun v l b s' h=>?_) (fun b s' h=>?_) _ _ ⟨rfl,rfl,hv⟩
 ·obtain ⟨rfl,h1,h2⟩:=h
  refine wpAny_bind (h2 v Q5 A E _ ?_)
  simp only [Qw,if_false]
  exact wpAny_pure ⟨rfl,rfl,fun u hu=>h2 u (Q4 _ hu)⟩
 ·obtain ⟨b1,b2⟩:=b
  obtain ⟨rfl,h1,_⟩:=h
  cases h1
  exact wpAny_pure q
theorem Q1h.tup {n:Nat} {a:Addr} {o:Obj} {vs:Array Value} {m:Nat} (ho:s.heap.get? a = some o) (hc:o.cls = .type "tuple") (hd:o.data = .seq vs m) (hv:∀ v ∈ vs.toList,Q1h P w n s v):Q1h P w (n + 1) s (.ref a):=fun A E Q q=>by
 have ty:s.TypeIs (.ref a) "tuple":=⟨o,ho,hc⟩
 unfold hashByValue
 refine wpAny_bind (wpAny_specialOf ty F.slot_tuple_hash.lookup ?_)
 show wpAny (model P w) A (seqItems? (.ref a) >>= _) Q E s
 refine wpAny_bind (wpAny_seqItems ho hd ?_)
 refine wpAny_bind ?_
 show wpAny (model P w) A (forIn vs _ _) _ E s
 rw [← Array.forIn_toList]
 refine wpAny_forIn_list _ (fun l b s'=>s' = s ∧ b.1 = none ∧ ∀ v ∈ l,Q1h P w n s v) _ (fun v l b s' h=>?_) (fun b s' h=>?_) _ _ ⟨rfl,rfl,hv⟩
 ·obtain ⟨rfl,h1,h2⟩:=h
  refine wpAny_bind (h2 v Q5 A E _ fun r=>?_)
  cases r
  ·simp only [Bool.not_false,if_true]
   exact wpAny_pure (wpAny_pure (q _))
  ·simp only [Bool.not_true,Qw,if_false]
   exact wpAny_pure ⟨rfl,rfl,fun u hu=>h2 u (Q4 _ hu)⟩
 ·obtain ⟨b1,b2⟩:=b
  obtain ⟨rfl,h1,_⟩:=h
  cases h1
  exact wpAny_pure (q _)
mutual
theorem Q9j:∀ (k:NestedKey) (v:Value) (n:Nat) (s:Shared),NestedIs s.heap k v → k.depth ≤ n → Q4M P w n s v
 | .none,_,n,_,.none,_=>fun _ _ _ q=>by cases n <;> exact wpAny_pure q
 | .num _,_,n,_,.bool _,_=>fun _ _ _ q=>by cases n <;> exact wpAny_pure q
 | .num _,_,n,_,.int _ _,_=>fun _ _ _ q=>by cases n <;> exact wpAny_pure q
 | .text _,_,n,_,.text _ _,_=>fun _ _ _ q=>by cases n <;> exact wpAny_pure q
 | .tup ks,_,0,_,.tup _ _ _ _,hn=>absurd hn (by simp [NestedKey.depth])
 | .tup ks,_,n + 1,s,.tup ho hc hd hk,hn=>.tup ho hc hd (Q45 ks _ n s hk (by simp only [NestedKey.depth] at hn; omega))
theorem Q45:∀ (ks:List NestedKey) (vs:List Value) (n:Nat) (s:Shared),NestedAll s.heap ks vs → NestedKey.depthAll ks ≤ n → ∀ v ∈ vs,Q4M P w n s v
 | [],_,_,_,.nil,_,v,hv=>by cases hv
 | k :: ks,_,n,s,.cons x y,hn,v,hv=>by
  simp only [NestedKey.depthAll] at hn
  rcases Q7.mp hv with e | e
  ·subst e
   exact Q9j k _ n s x (by omega)
  ·exact Q45 ks _ n s y (by omega) v e
end
mutual
theorem Q6J:∀ (k:NestedKey) (v:Value) (n:Nat) (s:Shared),NestedIs s.heap k v → k.depth ≤ n → Q1h P w n s v
 | .none,_,n,_,.none,_=>fun _ _ _ q=>by cases n <;> exact wpAny_pure (q _)
 | .num _,_,n,_,.bool _,_=>fun _ _ _ q=>by cases n <;> exact wpAny_pure (q _)
 | .num _,_,n,_,.int _ _,_=>fun _ _ _ q=>by cases n <;> exact wpAny_pure (q _)
 | .text _,_,n,_,.text _ _,_=>fun _ _ _ q=>by cases n <;> exact wpAny_pure (q _)
 | .tup ks,_,0,_,.tup _ _ _ _,hn=>absurd hn (by simp [NestedKey.depth])
 | .tup ks,_,n + 1,s,.tup ho hc hd hk,hn=>.tup ho hc hd (Q2A ks _ n s hk (by simp only [NestedKey.depth] at hn; omega))
theorem Q2A:∀ (ks:List NestedKey) (vs:List Value) (n:Nat) (s:Shared),NestedAll s.heap ks vs → NestedKey.depthAll ks ≤ n → ∀ v ∈ vs,Q1h P w n s v
 | [],_,_,_,.nil,_,v,hv=>by cases hv
 | k :: ks,_,n,s,.cons x y,hn,v,hv=>by
  simp only [NestedKey.depthAll] at hn
  rcases Q7.mp hv with e | e
  ·subst e
   exact Q6J k _ n s x (by omega)
  ·exact Q2A ks _ n s y (by omega) v e
end
abbrev Kin (P:Program) (w:World) (h:Heap) (k:NestedKey) (b:Addr):Prop:=(nestedKind P w).is h k b
abbrev kh (w:World) (k:NestedKey):Int:=k.hash w
theorem Kin.same {h h':Heap} {k:NestedKey} {a b:Addr} {o:Obj} {es:Array (Int × Value)} {ep:Nat} {t:SetTable} (x:Kin P w h k b) (ho:h.get? a = some o) (hd:o.data = .set es ep t) (sb:Heap.SameBut a h h'):Kin P w h' k b :=
 ⟨NestedIs.at (fun c o' vs n e1 e2=>(sb.2 c fun z=>by subst z; rw [ho] at e1; cases e1; rw [hd] at e2; cases e2).trans e1) k _ x.1,x.2⟩
def rowK (w:World) (L:List (Addr × NestedKey)):List (Int × Value):=L.map fun p=>(kh w p.2,Value.ref p.1)
abbrev few1:Nat:=1200
structure SetK2 (P:Program) (w:World) (h:Heap) (a:Addr) (L:List (Addr × NestedKey)) (es:Array (Int × Value)) (ep:Nat) (t:SetTable):Prop where
 ob:∃ o,h.get? a = some o ∧ o.ExactSet ∧ o.data = .set es ep t
 row:es.toList = rowK w L
 tab:Tab t (L.map fun p=>kh w p.2)
 one:(L.map (·.2)).Nodup
 key:∀ p ∈ L,Kin P w h p.2 p.1
 led:w.params.followText "set-order" = true ∨ t.led = true
 gap:L.length * 5 < t.mask * 3
 few:L.length < few1
variable {a:Addr} {L:List (Addr × NestedKey)} {es:Array (Int × Value)} {ep:Nat} {t:SetTable}
end
end Z
namespace Z
open PySem PySem.Spec PyProof.Rows L2

end Z
namespace Z
open PySem PySem.Spec PyProof.Rows L2
mutual
def Q1u:D → Option NestedKey
 | .none=>some .none
 | .int i=>some (.num i)
 | .str x=>some (.text x)
 | .tuple ds=>(Q0e ds).map .tup
 | _=>none
def Q0e:List D → Option (List NestedKey)
 | []=>some []
 | d :: r=>(Q1u d).bind fun k=>(Q0e r).map fun ks=>k :: ks
end
mutual
theorem Q8T:∀ (d:D) (k:NestedKey),Q1u d = some k → k.data = d
 | .none,_,h=>by cases h; rfl
 | .int i,_,h=>by cases h; rfl
 | .str i,_,h=>by cases h; rfl
 | .bool _,_,h=>by simp [Q1u] at h
 | .list _,_,h=>by simp [Q1u] at h
 | .dict _,_,h=>by simp [Q1u] at h
 | .tuple ds,k,h=>by
  rw [Q1u] at h
  cases e:Q0e ds with
  | none=>rw [e] at h; cases h
  | some ks =>
   rw [e] at h
   cases h
   rw [NestedKey.data,Q38 ds ks e]
theorem Q38:∀ (ds:List D) (ks:List NestedKey),Q0e ds = some ks → NestedKey.datas ks = ds
 | [],_,h=>by cases h; rfl
 | d :: r,_,h=>by
  rw [Q0e] at h
  cases e:Q1u d with
  | none=>rw [e] at h; cases h
  | some k =>
   rw [e] at h
   cases e2:Q0e r with
   | none=>rw [e2] at h; cases h
   | some ks =>
    rw [e2] at h
    cases h
    rw [NestedKey.datas,Q8T d k e,Q38 r ks e2]
end
mutual
theorem Q8N {h:Heap}:∀ (d:D) (k:NestedKey) (v:Value) (as:List Addr),Q1u d = some k → Reads h v d as → NestedIs h k v ∧ as = []
 | .none,_,_,_,e,r=>by cases e; cases r; exact ⟨.none,rfl⟩
 | .int i,_,_,_,e,r=>by cases e; cases r; exact ⟨.int _ _,rfl⟩
 | .str i,_,_,_,e,r=>by cases e; cases r; exact ⟨.text _ _,rfl⟩
 | .bool _,_,_,_,e,r=>by simp [Q1u] at e
 | .list _,_,_,_,e,r=>by simp [Q1u] at e
 | .dict _,_,_,_,e,r=>by simp [Q1u] at e
 | .tuple ds,k,v,as,e,r=>by
  rw [Q1u] at e
  cases e1:Q0e ds with
  | none=>rw [e1] at e; cases e
  | some ks =>
   rw [e1] at e
   cases e
   cases r with
   | tuple h1 h2 h3 h4 =>
    obtain ⟨q1,q2⟩:=Q48 ds ks _ as e1 h4
    exact ⟨.tup h1 h2 h3 q1,q2⟩
theorem Q48 {h:Heap}:∀ (ds:List D) (ks:List NestedKey) (vs:List Value) (as:List Addr),Q0e ds = some ks → ReadsAll h vs ds as → NestedAll h ks vs ∧ as = []
 | [],_,_,_,e,r=>by cases e; cases r; exact ⟨.nil,rfl⟩
 | d :: ds,ks,vs,as,e,r=>by
  rw [Q0e] at e
  cases e1:Q1u d with
  | none=>rw [e1] at e; cases e
  | some k =>
   rw [e1] at e
   cases e2:Q0e ds with
   | none=>rw [e2] at e; cases e
   | some ks' =>
    rw [e2] at e
    cases e
    cases r with
    | cons r1 r2 =>
     obtain ⟨q1,q2⟩:=Q8N d k _ _ e1 r1
     obtain ⟨q3,q4⟩:=Q48 ds ks' _ _ e2 r2
     subst q2
     subst q4
     exact ⟨.cons q1 q3,rfl⟩
end
theorem Qbi (l:List (Int ⊕ List Nat)):lexLt itemOrd l l = false:=lex_irrefl (O:=itemOrd) l
mutual
theorem Q5e:∀ (x y:D),PySem.W.alike x y = true → PySem.W.alike y x = true
 | .none,y,h=>by cases y <;> simp_all [PySem.W.alike]
 | .bool _,y,h=>by cases y <;> simp_all [PySem.W.alike]
 | .int _,y,h=>by cases y <;> simp_all [PySem.W.alike]
 | .str _,y,h=>by cases y <;> simp_all [PySem.W.alike]
 | .dict _,y,h=>by cases y <;> simp_all [PySem.W.alike]
 | .list xs,y,h=>by
  cases y with
  | list ys=>rw [PySem.W.alike] at h ⊢; exact Q1R xs ys h
  | _=>simp [PySem.W.alike] at h
 | .tuple xs,y,h=>by
  cases y with
  | tuple ys=>rw [PySem.W.alike] at h ⊢; exact Q1R xs ys h
  | _=>simp [PySem.W.alike] at h
theorem Q1R:∀ (xs ys:List D),PySem.W.alikeAll xs ys = true → PySem.W.alikeAll ys xs = true
 | [],[],_=>by simp [PySem.W.alikeAll]
 | [],_ :: _,_=>by simp [PySem.W.alikeAll]
 | _ :: _,[],_=>by simp [PySem.W.alikeAll]
 | x :: xs,y :: ys,h=>by
  rw [PySem.W.alikeAll,Q6] at h ⊢
  exact ⟨Q5e x y h.1,Q1R xs ys h.2⟩
end
theorem Q8F {x y:D} (ha:PySem.W.alike x y = true) {l m:List (Int ⊕ List Nat)} (e:PySem.W.keyToks x ++ l = PySem.W.keyToks y ++ m):PySem.W.keyToks x = PySem.W.keyToks y:=by
 have hb:=Q5e x y ha
 cases c:Jh x y with
 | true=>exact (PySem.W.toks_eqv x y ha).1 c
 | false =>
  cases c2:Jh y x with
  | true=>exact ((PySem.W.toks_eqv y x hb).1 c2).symm
  | false =>
   have a:=(PySem.W.toks_eqv x y ha).2 c l m
   have b:=(PySem.W.toks_eqv y x hb).2 c2 m l
   rw [e,Qbi] at a b
   exact lex_total (O:=itemOrd) _ _ a.symm b.symm
mutual
theorem QaO:∀ (x y:D),PySem.W.alike x y = true → PySem.W.keyToks x = PySem.W.keyToks y → x = y
 | .none,y,h,e=>by cases y <;> simp_all [PySem.W.alike]
 | .bool a,y,h,e=>by
  cases y with
  | bool b=>cases a <;> cases b <;> simp_all [PySem.W.keyToks]
  | _=>simp [PySem.W.alike] at h
 | .int a,y,h,e=>by
  cases y with
  | int b=>simp [PySem.W.keyToks] at e; rw [e]
  | _=>simp [PySem.W.alike] at h
 | .str a,y,h,e=>by
  cases y with
  | str b =>
   simp only [PySem.W.keyToks,List.cons.injEq,Sum.inr.injEq,and_true] at e
   rw [PySem.W.str_of_cps e]
  | _=>simp [PySem.W.alike] at h
 | .dict _,y,h,e=>by simp [PySem.W.alike] at h
 | .list xs,y,h,e=>by
  cases y with
  | list ys =>
   rw [PySem.W.alike] at h
   rw [PySem.W.keyToks,PySem.W.keyToks] at e
   rw [Q2S xs ys h e]
  | _=>simp [PySem.W.alike] at h
 | .tuple xs,y,h,e=>by
  cases y with
  | tuple ys =>
   rw [PySem.W.alike] at h
   rw [PySem.W.keyToks,PySem.W.keyToks] at e
   rw [Q2S xs ys h e]
  | _=>simp [PySem.W.alike] at h
theorem Q2S:∀ (xs ys:List D),PySem.W.alikeAll xs ys = true → PySem.W.keyToksAll xs = PySem.W.keyToksAll ys → xs = ys
 | [],[],_,_=>rfl
 | [],y :: ys,_,e=>by simp [PySem.W.keyToksAll] at e
 | x :: xs,[],_,e=>by simp [PySem.W.keyToksAll] at e
 | x :: xs,y :: ys,h,e=>by
  rw [PySem.W.alikeAll,Q6] at h
  rw [PySem.W.keyToksAll,PySem.W.keyToksAll] at e
  have e1:PySem.W.keyToks x ++ PySem.W.keyToksAll xs = PySem.W.keyToks y ++ PySem.W.keyToksAll ys:=(List.cons.inj e).2
  have e2:=Q8F h.1 e1
  rw [e2] at e1
  rw [QaO x y h.1 e2,Q2S xs ys h.2 (List.append_cancel_left e1)]
end
section
variable {X:Cx}
def okB (ds:List D):Bool:=Q1Z ds && ((ds.all fun d=>match d with | .tuple (_ :: _)=>true | _=>false) || (ds.all fun d=>match d with | .int _=>true | _=>false)) && ds.all (fun d=>decide (d.depth ≤ 8)) && (Q0e ds).isSome
end
end Z
namespace Z
open PySem PySem.Spec PyProof.Rows L2

end Z
namespace Z
open PySem PySem.Spec PyProof.Rows L2

end Z
namespace Z
open PySem PySem.Spec PyProof.Rows L2
mutual
theorem Q8U:∀ k:NestedKey,Q1u k.data = some k
 | .none=>rfl
 | .num _=>rfl
 | .text _=>rfl
 | .tup ks=>by rw [NestedKey.data,Q1u,Q3d ks]; rfl
theorem Q3d:∀ ks:List NestedKey,Q0e (NestedKey.datas ks) = some ks
 | []=>rfl
 | k :: ks=>by rw [NestedKey.datas,Q0e,Q8U k,Q3d ks]; rfl
end
mutual
theorem Q77:∀ k:NestedKey,k.data.depth = k.depth
 | .none=>rfl
 | .num _=>rfl
 | .text _=>rfl
 | .tup ks=>by
  rw [NestedKey.data,PyData.depth,NestedKey.depth,Q3g ks]
theorem Q3g:∀ ks:List NestedKey,Qv (NestedKey.datas ks) = NestedKey.depthAll ks
 | []=>rfl
 | k :: ks=>by
  rw [NestedKey.datas,Qv,NestedKey.depthAll,Q77 k,Q3g ks]
end

end Z
namespace Z
open PySem PySem.Spec PyProof.Rows L2

section
variable {X:Cx}

end
end Z
namespace Z
open PySem PySem.Spec PyProof.Rows L2

end Z
namespace Z
open PySem PySem.Spec PyProof.Rows L2


end Z
namespace Z
open PySem PySem.Spec PyProof.Rows L2

end Z
namespace Z
open PySem PySem.Spec PyProof.Rows L2

end Z
namespace Z
open PySem PySem.Spec PyProof.Rows L2


end Z
namespace Z
open PySem PySem.Spec PyProof.Rows L2


end Z
namespace Z
open PySem PySem.Spec PyProof.Rows L2

end Z
namespace Z
open PySem PySem.Spec PyProof.Rows L2


end Z
namespace Z
open PySem PySem.Spec PyProof.Rows L2
variable {X:Cx}
end Z
namespace PySem

end PySem
namespace PySem

end PySem
namespace Z
open PySem PySem.Spec PyProof.Rows L2

end Z
namespace Z
open PySem PySem.Spec PyProof.Rows L2

end Z
namespace Z
open PySem PySem.Spec PyProof.Rows L2
section
variable {X:Cx} {pins:List (Addr × Obj)} {σ:L2.St} {H G:Hp} {s:Shared}
mutual
theorem Rp.readsM (I:Inv X pins σ H s) (g:Same G H) (hm:H sysModules = none):∀ (d:D) (v:V) (u:Value),Rp X.K G v d → RelV v u → ∃ as,Reads s.heap u d as ∧ sysModules ∉ as
 | .none,_,_,h,r=>by
  cases h
  cases r
  exact ⟨_,Reads.none,Qn⟩
 | .bool b,_,_,h,r=>by
  cases h
  cases r
  exact ⟨_,Reads.bool b,Qn⟩
 | .int i,_,_,h,r=>by
  cases h
  obtain ⟨t,rfl⟩:=r
  exact ⟨_,Reads.int i t,Qn⟩
 | .str x,_,_,h,r=>by
  cases h
  obtain ⟨t,rfl⟩:=r
  exact ⟨_,Reads.str x t,Qn⟩
 | .list ds,_,_,h,r=>by
  cases h with
  | lst hs ha =>
   rename_i p xs
   cases r
   obtain ⟨its,rv,⟨o,n,ho,hc,_,hd⟩,_⟩:=I.list (SqL.of (g _ _ hs))
   obtain ⟨as,hr,hn⟩:=Rp.readsAllM I g hm ds _ its ha rv
   refine ⟨_,Reads.list ho hc hd hr,fun hz=>?_⟩
   rcases Q7.mp hz with hz | hz
   ·have:=g _ _ hs
    rw [← hz,hm] at this
    cases this
   ·exact hn hz
 | .tuple ds,_,_,h,r=>by
  cases h with
  | tup hs ha =>
   cases r
   obtain ⟨its,rv,⟨o,ho,hc,n,hd⟩,_⟩:=I.tuple (Same.sqt g hs)
   obtain ⟨as,hr,hn⟩:=Rp.readsAllM I g hm ds _ its ha rv
   exact ⟨_,Reads.tuple ho hc hd hr,hn⟩
 | .dict ds,_,_,h,r=>by
  cases h with
  | dic hs ha =>
   cases r
   obtain ⟨_,_,hsm,vs,rel,o,es,ep,ho,hx,hdat,_,hp,_⟩:=I.hok _ _ (g _ _ hs)
   obtain ⟨bs,h1,h2,hn⟩:=Rp.readsKvM I g hm ds _ vs es.toList ha rel hp
   refine ⟨_,Reads.dict ho hx.1 hdat h1 h2,fun hz=>?_⟩
   rcases Q7.mp hz with hz | hz
   ·have:=g _ _ hs
    rw [← hz,hm] at this
    cases this
   ·exact hn hz
theorem Rp.readsAllM (I:Inv X pins σ H s) (g:Same G H) (hm:H sysModules = none):∀ (ds:List D) (vs:List V) (us:List Value),Rps X.K G vs ds → Vals vs us → ∃ as,ReadsAll s.heap us ds as ∧ sysModules ∉ as
 | [],_,_,h,r=>by
  cases h
  cases r
  exact ⟨_,ReadsAll.nil,Qn⟩
 | d :: ds,_,_,h,r=>by
  cases h with
  | cons h1 h2 =>
   cases r with
   | cons r1 r2 =>
    obtain ⟨as,q1,m1⟩:=Rp.readsM I g hm d _ _ h1 r1
    obtain ⟨bs,q2,m2⟩:=Rp.readsAllM I g hm ds _ _ h2 r2
    exact ⟨_,ReadsAll.cons q1 q2,fun hz=>(Q9.mp hz).elim m1 m2⟩
theorem Rp.readsKvM (I:Inv X pins σ H s) (g:Same G H) (hm:H sysModules = none):∀ (ds:List (D × D)) (kvs:List (Key × V)) (vs:List (Key × Value)) (es:List DictEntry),RpK X.K G kvs ds → KV kvs vs → Pairs (mixKind X.prog X.w) es vs →
  ∃ bs,ReadsAll s.heap (es.map (·.key)) (ds.map (·.1)) [] ∧ ReadsAll s.heap (es.map (·.val)) (ds.map (·.2)) bs ∧ sysModules ∉ bs
 | [],_,_,_,h,r,p=>by
  cases h
  cases r
  cases p
  exact ⟨_,ReadsAll.nil,ReadsAll.nil,Qn⟩
 | (dk,dv) :: ds,_,_,_,h,r,p=>by
  cases h with
  | cons h1 h2 =>
   cases r with
   | cons r1 r2 =>
    rename_i q vs'
    obtain ⟨k',u⟩:=q
    obtain ⟨e1,r1⟩:=r1
    simp only at e1
    subst e1
    cases p with
    | cons p1 p2 p3 =>
     obtain ⟨as,q1,m1⟩:=Rp.readsM I g hm dv _ _ h1 r1
     obtain ⟨bs,q2,q3,m3⟩:=Rp.readsKvM I g hm ds _ _ _ h2 r2 p3
     refine ⟨as ++ bs,?_,?_,fun hz=>(Q9.mp hz).elim m1 m3⟩
     ·exact ReadsAll.cons (as:=[]) (bs:=[]) (Q4b p1) q2
     ·rw [Qm,p2]
      exact ReadsAll.cons q1 q3
end
end

end Z
namespace Z
open PySem PySem.Spec PyProof.Rows L2


end Z
namespace Z
open PySem PySem.Spec PyProof.Rows L2

end Z
namespace Z
open PySem PySem.Spec PyProof.Rows L2

end Z
namespace Z
open PySem PySem.Spec PyProof.Rows L2
def eLi {α:Type} (e:α → D) (xs:List α):D:=.list (xs.map e)
def eTu {α:Type} (e:α → D) (xs:List α):D:=.tuple (xs.map e)
def eP1 {α:Type} (a:α → D) (p:α):D:=.tuple [a p]
def eP2 {α β:Type} (a:α → D) (b:β → D) (p:α × β):D:=.tuple [a p.1,b p.2]
def eP3 {α β γ:Type} (a:α → D) (b:β → D) (c:γ → D) (p:α × β × γ):D:=.tuple [a p.1,b p.2.1,c p.2.2]
def eDi {α β:Type} (a:α → D) (b:β → D) (xs:List (α × β)):D:=.dict (xs.map fun p=>(a p.1,b p.2))
def eD (d:D):D:=d
structure Dk where
 cs:List Int
 m:Int
 n:Int
def sDk (k:Dk):Sl:=.dk k.cs k.m k.n
def Q2u {α β:Type} (v:α) (k:α → Option β):Option β:=k v
abbrev Fe:=List Sl → Option (D × List Sl)
abbrev Fb:=List Sl → Option (Bool × List Sl)
abbrev Fs:=List Sl → Option (List D × List Sl)
abbrev Fk:=List Sl → Option (List Ar × List Sl)
abbrev Fo:=List Sl → Option (Option Int × List Sl)
def VP (f:Fe) (δ:List Sl) (d:D):Prop:=f δ = some (d,δ)
def VN {α:Type} (f:Fe) (δ:List Sl) (o:Option α) (r:α → D × List Sl):Prop:=∀ a,o = some a → f δ = some (r a)
def AP (f:Fs) (δ:List Sl) (d:List D):Prop:=f δ = some (d,δ)
def AN {α:Type} (f:Fs) (δ:List Sl) (o:Option α) (r:α → List D × List Sl):Prop:=∀ a,o = some a → f δ = some (r a)
def TP (f:Fb) (δ:List Sl) (b:Bool):Prop:=f δ = some (b,δ)
def TN {α:Type} (f:Fb) (δ:List Sl) (o:Option α) (r:α → Bool × List Sl):Prop:=∀ a,o = some a → f δ = some (r a)
def KP (f:Fk) (δ:List Sl) (d:List Ar):Prop:=f δ = some (d,δ)
def KN {α:Type} (f:Fk) (δ:List Sl) (o:Option α) (r:α → List Ar × List Sl):Prop:=∀ a,o = some a → f δ = some (r a)
def OP (f:Fo) (δ:List Sl) (d:Option Int):Prop:=f δ = some (d,δ)
def ON {α:Type} (f:Fo) (δ:List Sl) (o:Option α) (r:α → Option Int × List Sl):Prop:=∀ a,o = some a → f δ = some (r a)
theorem Xs {α β:Type} {o:Option α} {k:α → Option β} {b:β} (h:o.bind k = some b):∃ a,o = some a ∧ k a = some b:=by
 cases o with
 | none=>cases h
 | some a=>exact ⟨a,rfl,h⟩
theorem Wr {α β:Type} {o:Option α} {k:α → β} {b:β} (h:o.map k = some b):∃ a,o = some a ∧ k a = b:=by
 cases o with
 | none=>cases h
 | some a=>exact ⟨a,rfl,by simpa using h⟩
section
variable {α β γ:Type} {δ δ1:List Sl} {d a b c z:D} {fa fb fc f:Fe} {o:Option α} {r:α → D × List Sl}
theorem Jk:VP (Jq d) δ d:=rfl
theorem Jj (i:Nat) (h:δ[i]? = some (.fz d):=by rfl):VP (Jr i) δ d:=by
 unfold VP Jr
 rw [h]
theorem V4 (i:Nat) {ds:List D} (h:δ[i]? = some (.ow (.list ds)):=by rfl):VP (fRd i) δ (.list ds):=by
 unfold VP fRd
 rw [h]
theorem Q5I (i:Nat) {ds:List (D × D)} (h:δ[i]? = some (.lk ds):=by rfl):VP (fRd i) δ (.dict ds):=by
 unfold VP fRd
 rw [h]
theorem Qcn (h:VP f δ a) (e:a = b):VP f δ b:=e ▸ h
theorem Q4L {r':α → D × List Sl} (h:VN f δ o r) (e:∀ x,r x = r' x):VN f δ o r':=fun x hx=>(h x hx).trans (by rw [e])
theorem Q06 {m:α → β} {r':β → D × List Sl} (h:VN f δ o r) (e:∀ x,r x = r' (m x)):VN f δ (o.map m) r':=fun y hy=>by
 obtain ⟨x,hx,rfl⟩:=Wr hy
 exact (h x hx).trans (by rw [e])
theorem Qcm (h:VP f δ a) {v:β} {r':β → D × List Sl} (e:(a,δ) = r' v):VN f δ (some v) r':=fun y hy=>by
 cases hy
 exact (show f δ = some (a,δ) from h).trans (by rw [e])
theorem QcD {q:Option β} {e:β → D} (h:VP f δ a) (hr:∀ v,q = some v → a = e v):VN f δ q (fun v=>(e v,δ)):=fun v hv=>by
 have:=hr v hv
 subst this
 exact h
theorem Jp:AP Xf δ []:=rfl
variable {fr:Fs} {ds:List D}
theorem Jo (ha:VP fa δ a) (hr:AP fr δ ds):AP (Js fa fr) δ (a :: ds):=by
 unfold AP Js
 rw [show fa δ = some (a,δ) from ha,Q1,show fr δ = some (ds,δ) from hr]
 rfl
theorem V1 {r:α → List D × List Sl} (ha:VP fa δ a) (hr:AN fr δ o r):AN (Js fa fr) δ o (fun x=>(a :: (r x).1,(r x).2)):=fun x hx=>by
 unfold Js
 rw [show fa δ = some (a,δ) from ha,Q1,hr x hx]
 rfl
theorem Xe {ds:α → List D} (ha:VN fa δ o r) (hr:∀ x,AP fr (r x).2 (ds x)):AN (Js fa fr) δ o (fun x=>((r x).1 :: ds x,(r x).2)):=fun x hx=>by
 unfold Js
 rw [ha x hx,Q1,show fr (r x).2 = some (ds x,(r x).2) from hr x]
 rfl
theorem Q0G {o':α → Option β} {r':α → β → List D × List Sl} (ha:VN fa δ o r) (hr:∀ x,AN fr (r x).2 (o' x) (r' x)):AN (Js fa fr) δ (o.bind fun x=>(o' x).map fun y=>(x,y)) (fun p=>((r p.1).1 :: (r' p.1 p.2).1,(r' p.1 p.2).2)):=fun p hp=>by
 obtain ⟨x,hx,hp⟩:=Xs hp
 obtain ⟨y,hy,rfl⟩:=Wr hp
 unfold Js
 rw [ha x hx,Q1,hr x y hy]
 rfl
variable {g:D → D → Option D}
theorem Xj (ha:VP fa δ a) (hb:VP fb δ b) (hz:g a b = some z):VP (f2 g fa fb) δ z:=by
 unfold VP f2
 rw [show fa δ = some (a,δ) from ha,Q1,show fb δ = some (b,δ) from hb,Q1,hz]
 rfl
theorem Y9 {q:Option β} {e:β → D} (ha:VP fa δ a) (hb:VP fb δ b) (hz:∀ v,q = some v → g a b = some (e v)):VN (f2 g fa fb) δ q (fun v=>(e v,δ)):=fun v hv=>by
 unfold f2
 rw [show fa δ = some (a,δ) from ha,Q1,show fb δ = some (b,δ) from hb,Q1,hz v hv]
 rfl
theorem QdN:f2 g fa fb δ = fA (g2 g) (Js fa (Js fb Xf)) δ:=by
 unfold f2 fA Js Xf
 cases fa δ with
 | none=>rfl
 | some p =>
  simp only [Q1]
  cases fb p.2 with
  | none=>rfl
  | some q=>rfl
variable {G:List D → Option D}
theorem Q0f (h:AP fr δ ds) (hz:G ds = some z):VP (fA G fr) δ z:=by
 unfold VP fA
 rw [show fr δ = some (ds,δ) from h,Q1,hz]
 rfl
theorem Q4g {q:Option β} {e:β → D} (h:AP fr δ ds) (hz:∀ v,q = some v → G ds = some (e v)):VN (fA G fr) δ q (fun v=>(e v,δ)):=fun v hv=>by
 unfold fA
 rw [show fr δ = some (ds,δ) from h,Q1,hz v hv]
 rfl
theorem Q7y {r:α → List D × List Sl} {z:α → D} (h:AN fr δ o r) (hz:∀ x,G (r x).1 = some (z x)):VN (fA G fr) δ o (fun x=>(z x,(r x).2)):=fun x hx=>by
 unfold fA
 rw [h x hx,Q1,hz x]
 rfl
theorem Q9q {r:α → List D × List Sl} {q:α → Option β} {e:α → β → D} (h:AN fr δ o r) (hz:∀ x v,q x = some v → G (r x).1 = some (e x v)):VN (fA G fr) δ (o.bind fun x=>(q x).map fun v=>(x,v)) (fun p=>(e p.1 p.2,(r p.1).2)):=fun p hp=>by
 obtain ⟨x,hx,hp⟩:=Xs hp
 obtain ⟨v,hv,rfl⟩:=Wr hp
 unfold fA
 rw [h x hx,Q1,hz x v hv]
 rfl
theorem Wj {r:α → List D × List Sl} {z:α → D} (h:AN (Js fa (Js fb Xf)) δ o r) (hz:∀ x,g2 g (r x).1 = some (z x)):VN (f2 g fa fb) δ o (fun x=>(z x,(r x).2)):=fun x hx=>QdN.trans (Q7y h hz x hx)
theorem Zj {r:α → List D × List Sl} {q:α → Option β} {e:α → β → D} (h:AN (Js fa (Js fb Xf)) δ o r) (hz:∀ x v,q x = some v → g2 g (r x).1 = some (e x v)):VN (f2 g fa fb) δ (o.bind fun x=>(q x).map fun v=>(x,v)) (fun p=>(e p.1 p.2,(r p.1).2)):=fun x hx=>QdN.trans (Q9q h hz x hx)
variable {u:D → Option D}
theorem Q6h (ha:VP fa δ a) (hz:u a = some z):VP (f1 u fa) δ z:=by
 unfold VP f1
 rw [show fa δ = some (a,δ) from ha,Q1,hz]
 rfl
theorem Wx (h:AP fr δ ds) (hl:decide (ds.length ≤ 1000) = true:=by rfl):VP (Ki fr) δ (.tuple ds):=by
 unfold VP Ki
 rw [show fr δ = some (ds,δ) from h,Q1]
 exact if_pos (Qr (of_decide_eq_true hl) (by rw [sizeLine_eq]; omega))
theorem Q35 {r:α → List D × List Sl} (h:AN fr δ o r) (hl:∀ x,decide ((r x).1.length ≤ 1000) = true:=by intro _; rfl):VN (Ki fr) δ o (fun x=>(.tuple (r x).1,(r x).2)):=fun x hx=>by
 unfold Ki
 rw [h x hx,Q1]
 exact if_pos (Qr (of_decide_eq_true (hl x)) (by rw [sizeLine_eq]; omega))
theorem Yq (h:AP fr δ ds) (hl:decide (ds.length ≤ 1000) = true:=by rfl):VP (W8 fr) δ (.list ds):=by
 unfold VP W8
 rw [show fr δ = some (ds,δ) from h,Q1]
 exact if_pos (Qr (of_decide_eq_true hl) (by rw [sizeLine_eq]; omega))
theorem Q7A {r:α → List D × List Sl} (h:AN fr δ o r) (hl:∀ x,decide ((r x).1.length ≤ 1000) = true:=by intro _; rfl):VN (W8 fr) δ o (fun x=>(.list (r x).1,(r x).2)):=fun x hx=>by
 unfold W8
 rw [h x hx,Q1]
 exact if_pos (Qr (of_decide_eq_true (hl x)) (by rw [sizeLine_eq]; omega))
theorem Zo {b:Bool} (h:VP f δ (.bool b)):TP (fun δ=>toB (f δ)) δ b:=by
 unfold TP
 show toB (f δ) = _
 rw [show f δ = some (.bool b,δ) from h]
 rfl
theorem Q24 {b:α → Bool} (h:VN f δ o r) (hb:∀ x,(r x).1 = .bool (b x)):TN (fun δ=>toB (f δ)) δ o (fun x=>(b x,(r x).2)):=fun x hx=>by
 show toB (f δ) = _
 rw [h x hx,show r x = (.bool (b x),(r x).2) from by rw [← hb x]]
 rfl
variable {ga gb:Fb} {s t:Bool}
theorem Q3J (h:TP ga δ s):TP (Q0t ga) δ (!s):=by
 unfold TP Q0t
 rw [show ga δ = some (s,δ) from h]
 rfl
theorem Q0L {r:α → Bool × List Sl} (h:TN ga δ o r):TN (Q0t ga) δ o (fun x=>(!(r x).1,(r x).2)):=fun x hx=>by
 unfold Q0t
 rw [h x hx]
 rfl
theorem Qe7 (h:TP ga δ s) (k:TP gb δ t):TP (gOr ga gb) δ (s || t):=by
 unfold TP gOr
 rw [show ga δ = some (s,δ) from h]
 cases s
 ·exact k
 ·rfl
theorem Q22 {m:α → β} {r:α → Bool × List Sl} {r':β → Bool × List Sl} (h:TN ga δ o r) (e:∀ x,r x = r' (m x)):TN ga δ (o.map m) r':=fun y hy=>by
 obtain ⟨x,hx,rfl⟩:=Wr hy
 exact (h x hx).trans (by rw [e])
theorem QaR {r r':α → Bool × List Sl} (h:TN ga δ o r) (e:∀ x,r x = r' x):TN ga δ o r':=fun x hx=>(h x hx).trans (by rw [e])
theorem Q8l {o:Option β} {r:β → Bool × List Sl} {v:β} (h:TP ga δ s) (k:TN gb δ o r) (hv:r v = (false,δ)):TN (Q5j ga gb) δ (if s then o else some v) r:=fun x hx=>by
 unfold Q5j
 rw [show ga δ = some (s,δ) from h]
 cases s
 ·cases hx; exact congrArg some hv.symm
 ·exact k x hx
theorem Q5k {o:Option β} {r:β → Bool × List Sl} {v:β} (h:TP ga δ s) (k:TN gb δ o r) (hv:r v = (true,δ)):TN (gOr ga gb) δ (if s then some v else o) r:=fun x hx=>by
 unfold gOr
 rw [show ga δ = some (s,δ) from h]
 cases s
 ·exact k x hx
 ·cases hx; exact congrArg some hv.symm
theorem Qba {r:α → Bool × List Sl} {o':α → Option β} {r':β → Bool × List Sl} {b:α → Bool} {v:α → β} (h:TN ga δ o r) (hb:∀ x,(r x).1 = b x) (k:∀ x,TN gb (r x).2 (o' x) r') (hv:∀ x,r' (v x) = (false,(r x).2)):TN (Q5j ga gb) δ (o.bind fun x=>if b x then o' x else some (v x)) r':=fun y hy=>by
 obtain ⟨x,hx,hy⟩:=Xs hy
 unfold Q5j
 rw [h x hx,Q1,hb x]
 cases e:b x with
 | false=>rw [e] at hy; cases hy; exact congrArg some (hv x).symm
 | true=>rw [e] at hy; exact k x y hy
theorem Q7i {r:α → Bool × List Sl} {o':α → Option β} {r':β → Bool × List Sl} {b:α → Bool} {v:α → β} (h:TN ga δ o r) (hb:∀ x,(r x).1 = b x) (k:∀ x,TN gb (r x).2 (o' x) r') (hv:∀ x,r' (v x) = (true,(r x).2)):TN (gOr ga gb) δ (o.bind fun x=>if b x then some (v x) else o' x) r':=fun y hy=>by
 obtain ⟨x,hx,hy⟩:=Xs hy
 unfold gOr
 rw [h x hx,Q1,hb x]
 cases e:b x with
 | true=>rw [e] at hy; cases hy; exact congrArg some (hv x).symm
 | false=>rw [e] at hy; exact k x y hy
theorem Q9u (h:VP fa δ (.bool s)) (k:VP fb δ (.bool t)):VP (Q2Q fa fb) δ (.bool (s && t)):=by
 unfold VP Q2Q
 rw [show fa δ = some (.bool s,δ) from h]
 cases s
 ·rfl
 ·exact k
theorem QcU (h:VP fa δ (.bool s)):VP (Q9U fa) δ (.bool (!s)):=by
 unfold VP Q9U
 rw [show fa δ = some (.bool s,δ) from h]
 rfl
theorem Q8p {o:Option β} {r:β → D × List Sl} {v:β} (h:VP fa δ (.bool s)) (k:VN fb δ o r) (hv:r v = (.bool false,δ)):VN (Q2Q fa fb) δ (if s then o else some v) r:=fun x hx=>by
 unfold Q2Q
 rw [show fa δ = some (.bool s,δ) from h]
 cases s
 ·cases hx; exact congrArg some hv.symm
 ·exact k x hx
theorem Qbv {o':α → Option β} {r':β → D × List Sl} {b:α → Bool} {v:α → β} (h:VN fa δ o r) (hb:∀ x,(r x).1 = .bool (b x)) (k:∀ x,VN fb (r x).2 (o' x) r') (hv:∀ x,r' (v x) = (.bool false,(r x).2)):VN (Q2Q fa fb) δ (o.bind fun x=>if b x then o' x else some (v x)) r':=fun y hy=>by
 obtain ⟨x,hx,hy⟩:=Xs hy
 unfold Q2Q
 rw [h x hx,show r x = (.bool (b x),(r x).2) from by rw [← hb x]]
 cases e:b x with
 | false=>rw [e] at hy; cases hy; exact congrArg some (hv x).symm
 | true=>rw [e] at hy; exact k x y hy
theorem Q9v {e:β → D} {x y:β} (hc:TP ga δ s) (ha:VP fa δ (e x)) (hb:VP fb δ (e y)):VP (Q1N ga fa fb) δ (e (if s then x else y)):=by
 unfold VP Q1N
 rw [show ga δ = some (s,δ) from hc]
 cases s
 ·exact hb
 ·exact ha
theorem Qdm {oa ob:Option β} {r:β → D × List Sl} (hc:TP ga δ s) (ha:VN fa δ oa r) (hb:VN fb δ ob r):VN (Q1N ga fa fb) δ (if s then oa else ob) r:=fun x hx=>by
 unfold Q1N
 rw [show ga δ = some (s,δ) from hc]
 cases s
 ·exact hb x hx
 ·exact ha x hx
variable {h1 h2:D → D → Option D}
theorem Q6V (ha:VP fa δ a) (hb:VP fb δ b) (hc:VP fc δ c) (e1:h1 a b = some (.bool s)) (e2:h2 b c = some (.bool t)):VP (Ze h1 h2 fa fb fc) δ (.bool (s && t)):=by
 unfold VP Ze
 rw [show fa δ = some (a,δ) from ha,Q1,show fb δ = some (b,δ) from hb,Q1,e1,Q1]
 cases s
 ·rfl
 ·show (fc δ).bind _ = _
  rw [show fc δ = some (c,δ) from hc,Q1,e2]
  rfl
theorem Qas {r:α → List D × List Sl} {a b c:α → D} {s t:α → Bool} (h:AN (Js fa (Js fb Xf)) δ o r) (hr:∀ x,(r x).1 = [a x,b x]) (hc:∀ x,VP fc (r x).2 (c x)) (e1:∀ x,h1 (a x) (b x) = some (.bool (s x))) (e2:∀ x,h2 (b x) (c x) = some (.bool (t x))):VN (Ze h1 h2 fa fb fc) δ o (fun x=>(.bool (s x && t x),(r x).2)):=fun x hx=>by
 have q:=h x hx
 unfold Js at q
 obtain ⟨p,e3,q⟩:=Xs q
 obtain ⟨p2,e4,q⟩:=Wr q
 unfold Xf at e4
 obtain ⟨p3,e5,e6⟩:=Xs e4
 obtain ⟨p4,e7,e8⟩:=Wr e6
 cases e7
 subst e8
 have e9:r x = (p.1 :: [p3.1],p3.2):=q.symm
 have e10:=hr x
 rw [e9] at e10
 have e11:p.1 = a x:=(List.cons.inj e10).1
 have e12:p3.1 = b x:=(List.cons.inj (List.cons.inj e10).2).1
 have hc':=hc x
 rw [e9] at hc'
 have e13:(r x).2 = p3.2:=by rw [e9]
 unfold Ze
 rw [e3,Q1,e5,Q1,e11,e12,e1 x,Q1]
 show _ = some (Qg (s x && t x),(r x).2)
 rw [e13]
 cases s x
 ·rfl
 ·show (fc p3.2).bind _ = _
  rw [show fc p3.2 = some (c x,p3.2) from hc',Q1,e2 x]
  rfl
end
end Z
namespace Z
open PySem PySem.Spec PyProof.Rows L2
section
variable {α β γ:Type} {δ δ1:List Sl} {d a b c z:D} {fa fb fc f:Fe} {o:Option α} {r:α → D × List Sl}
variable {fk:Fk} {as:List Ar}
theorem X7:KP Y0 δ []:=rfl
theorem X0 (ha:VP fa δ a) (hr:KP fk δ as):KP (X1 fa fk) δ (.d a :: as):=by
 unfold KP X1
 rw [show fa δ = some (a,δ) from ha,Q1,show fk δ = some (as,δ) from hr]
 rfl
theorem Ym (i:Nat) (hr:KP fk δ as) (h:Q4W i δ = true:=by rfl):KP (kIo i fk) δ (.io i :: as):=by
 unfold KP kIo
 rw [if_pos h,show fk δ = some (as,δ) from hr]
 rfl
theorem Q8a {r:α → List Ar × List Sl} (ha:VP fa δ a) (hr:KN fk δ o r):KN (X1 fa fk) δ o (fun x=>(.d a :: (r x).1,(r x).2)):=fun x hx=>by
 unfold X1
 rw [show fa δ = some (a,δ) from ha,Q1,hr x hx]
 rfl
theorem Qdl (i:Nat) {r:α → List Ar × List Sl} (hr:KN fk δ o r) (h:Q4W i δ = true:=by rfl):KN (kIo i fk) δ o (fun x=>(.io i :: (r x).1,(r x).2)):=fun x hx=>by
 unfold kIo
 rw [if_pos h,hr x hx]
 rfl
theorem Q6o {ds:α → List Ar} (ha:VN fa δ o r) (hr:∀ x,KP fk (r x).2 (ds x)):KN (X1 fa fk) δ o (fun x=>(.d (r x).1 :: ds x,(r x).2)):=fun x hx=>by
 unfold X1
 rw [ha x hx,Q1,show fk (r x).2 = some (ds x,(r x).2) from hr x]
 rfl
theorem Q85 {o':α → Option β} {r':α → β → List Ar × List Sl} (ha:VN fa δ o r) (hr:∀ x,KN fk (r x).2 (o' x) (r' x)):KN (X1 fa fk) δ (o.bind fun x=>(o' x).map fun y=>(x,y)) (fun p=>(.d (r p.1).1 :: (r' p.1 p.2).1,(r' p.1 p.2).2)):=fun p hp=>by
 obtain ⟨x,hx,hp⟩:=Xs hp
 obtain ⟨y,hy,rfl⟩:=Wr hp
 unfold X1
 rw [ha x hx,Q1,hr x y hy]
 rfl
variable {φ:Fe} {R:List Nat}
theorem X3 {q:Option β} {dv:β → D} {outs:β → List Sl} (h:KP fk δ as) (hφ:∀ v,q = some v → φ (as.map (Q69 δ)) = some (dv v,outs v)) (ok:Q1F R δ as = true:=by rfl) (ho:∀ v,(Wv R as (outs v) && (R.isEmpty || (true && noL (dv v)))) = true:=by intro _; rfl):VN (Xb R true φ fk) δ q (fun v=>(dv v,Vc as (outs v) δ)):=fun v hv=>by
 unfold Xb
 rw [show fk δ = some (as,δ) from h,Q1,if_pos ok,hφ v hv,Q1,if_pos (ho v)]
theorem Q18 {r:α → List Ar × List Sl} {q:α → Option β} {dv:α → β → D} {outs:α → β → List Sl} (h:KN fk δ o r) (hφ:∀ x v,q x = some v → φ ((r x).1.map (Q69 (r x).2)) = some (dv x v,outs x v)) (ok:∀ x,Q1F R (r x).2 (r x).1 = true:=by intro _; rfl) (ho:∀ x v,(Wv R (r x).1 (outs x v) && (R.isEmpty || (true && noL (dv x v)))) = true:=by intro _ _; rfl):VN (Xb R true φ fk) δ (o.bind fun x=>(q x).map fun v=>(x,v)) (fun p=>(dv p.1 p.2,Vc (r p.1).1 (outs p.1 p.2) (r p.1).2)):=fun p hp=>by
 obtain ⟨x,hx,hp⟩:=Xs hp
 obtain ⟨v,hv,rfl⟩:=Wr hp
 unfold Xb
 rw [h x hx,Q1,if_pos (ok x),hφ x v hv,Q1,if_pos (ho x v)]
theorem Q7Q (i:Nat) {ds:List (D × D)} {es:α → List (D × D)} (k:VN f (δ.set i (.lk ds)) o r) (h:δ[i]? = some (.ow (.dict ds)):=by rfl) (h2:∀ x,(r x).2[i]? = some (.lk (es x)):=by intro _; rfl):VN (fLk i f) δ o (fun x=>((r x).1,(r x).2.set i (.ow (.dict (es x))))):=fun x hx=>by
 unfold fLk
 rw [h]
 show (f (δ.set i (.lk ds))).bind _ = _
 rw [k x hx,Q1,h2 x]
variable {fl fh:Fo} {lo hi:Option Int} {g3:D → Option Int → Option Int → Option D}
theorem Kr:OP Q0O δ none:=rfl
theorem Yy {i:Int} (h:VP fa δ (.int i)):OP (Vh fa) δ (some i):=by
 unfold OP Vh
 rw [show fa δ = some (.int i,δ) from h]
 rfl
theorem Qc5 {i:α → Int} (h:VN fa δ o r) (hr:∀ x,(r x).1 = .int (i x)):ON (Vh fa) δ o (fun x=>(some (i x),(r x).2)):=fun x hx=>by
 unfold Vh
 rw [h x hx,show r x = (.int (i x),(r x).2) from by rw [← hr x]]
 rfl
theorem Q4o (ha:VP fa δ a) (hl:OP fl δ lo) (hh:OP fh δ hi) (hz:g3 a lo hi = some z):VP (f3 g3 fa fl fh) δ z:=by
 unfold VP f3
 rw [show fa δ = some (a,δ) from ha,Q1,show fl δ = some (lo,δ) from hl,Q1,show fh δ = some (hi,δ) from hh,Q1,hz]
 rfl
theorem Qcf {q:Option β} {e:β → D} (ha:VP fa δ a) (hl:OP fl δ lo) (hh:OP fh δ hi) (hz:∀ v,q = some v → g3 a lo hi = some (e v)):VN (f3 g3 fa fl fh) δ q (fun v=>(e v,δ)):=fun v hv=>by
 unfold f3
 rw [show fa δ = some (a,δ) from ha,Q1,show fl δ = some (lo,δ) from hl,Q1,show fh δ = some (hi,δ) from hh,Q1,hz v hv]
 rfl
theorem Qe2 {r:α → Option Int × List Sl} {z:α → D} (ha:VP fa δ a) (hl:OP fl δ lo) (hh:ON fh δ o r) (hz:∀ x,g3 a lo (r x).1 = some (z x)):VN (f3 g3 fa fl fh) δ o (fun x=>(z x,(r x).2)):=fun x hx=>by
 unfold f3
 rw [show fa δ = some (a,δ) from ha,Q1,show fl δ = some (lo,δ) from hl,Q1,hh x hx,Q1,hz x]
 rfl
variable {fi fr:Fs} {ds:List D}
theorem Q3p (h:VP fa δ a) (hz:Yw a = some ds):AP (fIt fa) δ ds:=by
 unfold AP fIt
 rw [show fa δ = some (a,δ) from h,Q1,hz]
 rfl
theorem Q5a {z:α → List D} (h:VN fa δ o r) (hz:∀ x,Yw (r x).1 = some (z x)):AN (fIt fa) δ o (fun x=>(z x,(r x).2)):=fun x hx=>by
 unfold fIt
 rw [h x hx,Q1,hz x]
 rfl
theorem Q7v {q:Option β} {z:β → List D} (h:VP fa δ a) (hz:∀ v,q = some v → Yw a = some (z v)):AN (fIt fa) δ q (fun v=>(z v,δ)):=fun v hv=>by
 unfold fIt
 rw [show fa δ = some (a,δ) from h,Q1,hz v hv]
 rfl
def Q1w (lo:Int) (n:Nat):List Int:=(List.range n).map fun i=>lo + (i:Nat)
theorem Q3z (lo:Int) (n:Nat):Q1t lo n = (Q1w lo n).map Q0:=by
 unfold Q1t Q1w
 rw [Qz]
 rfl
def Q4H (j:Int):Option (List Int):=if W2 j then some (Q1w 0 j.toNat) else none
theorem Qbu {j:Int} (h:AP fr δ [.int j]) (hj:W2 j = true:=by decide):AP (Q1Y fr) δ ((Q1w 0 j.toNat).map Q0):=by
 unfold AP Q1Y
 rw [show fr δ = some ([.int j],δ) from h,Q1]
 show (if W2 j = true then some (Q1t 0 j.toNat,δ) else none) = _
 rw [if_pos hj,Q3z]
theorem Qc7 {j:Int} (h:AP fr δ [.int j]):AN (Q1Y fr) δ (Q4H j) (fun xs=>(xs.map Q0,δ)):=fun xs hx=>by
 unfold Q4H at hx
 unfold Q1Y
 rw [show fr δ = some ([.int j],δ) from h,Q1]
 show (if W2 j = true then some (Q1t 0 j.toNat,δ) else none) = _
 split at hx
 ·rename_i c; cases hx; rw [if_pos c,Q3z]
 ·cases hx
theorem Q2b {r:α → List D × List Sl} {j:α → Int} (h:AN fr δ o r) (hr:∀ x,(r x).1 = [.int (j x)]):AN (Q1Y fr) δ (o.bind fun x=>(Q4H (j x)).map fun xs=>(x,xs)) (fun p=>(p.2.map Q0,(r p.1).2)):=fun p hp=>by
 obtain ⟨x,hx,hp⟩:=Xs hp
 obtain ⟨v,hv,rfl⟩:=Wr hp
 unfold Q4H at hv
 unfold Q1Y
 rw [h x hx,Q1]
 have e:r x = ([.int (j x)],(r x).2):=by rw [← hr x]
 rw [e]
 show (if W2 (j x) = true then some (Q1t 0 (j x).toNat,(r x).2) else none) = _
 split at hv
 ·rename_i c; cases hv; rw [if_pos c,Q3z]
 ·cases hv
def Q3j {τ:Type} (xs:List τ):List (Int × τ):=xs.zipIdx.map fun p=>((p.2:Int),p.1)
theorem Q6I {τ:Type} (e:τ → D) (xs:List τ):Q2G (xs.map e) = (Q3j xs).map (eP2 Q0 e):=by
 unfold Q2G Q3j
 rw [List.zipIdx_map,Qz,Qz]
 rfl
theorem QbG {τ:Type} {e:τ → D} {xs:List τ} (h:VP fa δ (eLi e xs)):AP (Q3o fa) δ ((Q3j xs).map (eP2 Q0 e)):=by
 unfold AP Q3o
 rw [show fa δ = some (.list (xs.map e),δ) from h,Q1]
 show some (Q2G (xs.map e),δ) = _
 rw [Q6I]
theorem Qbk {τ:Type} {e:τ → D} {xs:α → List τ} (h:VN fa δ o r) (hr:∀ x,(r x).1 = eLi e (xs x)):AN (Q3o fa) δ o (fun x=>((Q3j (xs x)).map (eP2 Q0 e),(r x).2)):=fun x hx=>by
 unfold Q3o
 rw [h x hx,Q1,show r x = (.list ((xs x).map e),(r x).2) from by rw [show (Jd ((xs x).map e)) = (r x).1 from (hr x).symm]]
 show some (Q2G ((xs x).map e),(r x).2) = _
 rw [Q6I]
theorem Xv (i:Nat) (h:decide (i < δ.length) = true:=by rfl):Y7 (.nm i) d δ = some (δ.set i (.fz d)):=by
 unfold Y7
 exact if_pos (of_decide_eq_true h)
theorem W3:Y2 .nil [] δ = some δ:=by unfold Y2; rfl
theorem Xn {T U:Tt} {δ2:List Sl} (h:Y7 T d δ = some δ1) (k:Y2 U ds δ1 = some δ2):Y2 (.cons T U) (d :: ds) δ = some δ2:=by
 unfold Y2
 rw [h]
 exact k
theorem Zb {T U:Tt} (h:Y2 (.cons T U) ds δ = some δ1):Y7 (.cons T U) (.tuple ds) δ = some δ1:=by
 unfold Y7
 exact h
variable {T:Tt} {vs:List Nat} {cc:Fb} {fe:Fe} {ι τ σ:Type} {e:ι → D} {e':τ → D} {xs:List ι}
def Q9p (f:ι → τ) (xs:List ι):Option (List τ):=if xs.length ≤ sizeLine then some (xs.map f) else none
def Q4m (c:ι → σ → Option (Bool × σ)) (f:ι → σ → Option (τ × σ)):List ι → σ → Option (List τ × σ)
 | [],s=>some ([],s)
 | x :: xs,s=>(c x s).bind fun p=>match p.1 with
  | true=>(f x p.2).bind fun q=>(Q4m c f xs q.2).map fun z=>(q.1 :: z.1,z.2)
  | false=>Q4m c f xs p.2
def mapM (f:ι → Option τ):List ι → Option (List τ)
 | []=>some []
 | x :: xs=>(f x).bind fun y=>(mapM f xs).map fun ys=>y :: ys
def Q2K (c:ι → Option Bool) (f:ι → Option τ):List ι → Option (List τ)
 | []=>some []
 | x :: xs=>(c x).bind fun b=>match b with
  | true=>(f x).bind fun y=>(Q2K c f xs).map fun ys=>y :: ys
  | false=>Q2K c f xs
def Q4s (f:ι → σ → Option (τ × σ)):List ι → σ → Option (List τ × σ)
 | [],s=>some ([],s)
 | x :: xs,s=>(f x s).bind fun q=>(Q4s f xs q.2).map fun z=>(q.1 :: z.1,z.2)
def Wm (xs:List ι) (o:Option τ):Option τ:=if xs.length ≤ sizeLine then o else none
theorem Q5Q {cb:ι → Bool} {fb:ι → τ} {δb:ι → List Sl} (hT:∀ x,Y7 T (e x) δ = some (δb x)) (hc:∀ x,TP cc (δb x) (cb x)) (hf:∀ x,VP fe (δb x) (e' (fb x))) (hw:∀ x,Ya vs (δb x) = δ):∀ xs:List ι,Wn T vs cc fe (xs.map e) δ = some (((xs.filter cb).map fb).map e',δ)
 | []=>rfl
 | x :: xs=>by
  rw [Qm]
  unfold Wn
  rw [hT x,Q1,show cc (δb x) = some (cb x,δb x) from hc x,Q1,List.filter_cons]
  cases cb x
  ·show Wn T vs cc fe (xs.map e) (Ya vs (δb x)) = _
   rw [hw x]
   exact Q5Q hT hc hf hw xs
  ·show (fe (δb x)).bind _ = _
   rw [show fe (δb x) = some (e' (fb x),δb x) from hf x,Q1,hw x,Q5Q hT hc hf hw xs]
   rfl
theorem Q9C {fb:ι → τ} {δb:ι → List Sl} (hi:AP fi δ (xs.map e)) (hT:∀ x,Y7 T (e x) δ = some (δb x)) (hf:∀ x,VP fe (δb x) (e' (fb x))) (hw:∀ x,Ya vs (δb x) = δ:=by intro _; rfl) (hn:noS vs δ = true:=by rfl):VN (fLc T vs fi Q0h fe) δ (Q9p fb xs) (fun ys=>(eLi e' ys,δ)):=fun ys hy=>by
 have q:=Q5Q (cc:=Q0h) (cb:=fun _=>true) hT (fun _=>rfl) hf hw xs
 unfold Q9p at hy
 split at hy
 ·rename_i c
  cases hy
  unfold fLc
  rw [show fi δ = some (xs.map e,δ) from hi,Q1,if_pos (by rw [hn,Q3,decide_eq_true c]; rfl),q,List.filter_eq_self.mpr (fun _ _=>rfl)]
  rfl
 ·cases hy
theorem Q5M {st:σ → List Sl} {cN:ι → σ → Option (Bool × σ)} {fN:ι → σ → Option (τ × σ)} {δb δc:ι → σ → List Sl} (hT:∀ x s,Y7 T (e x) (st s) = some (δb x s)) (hc:∀ x s,TN cc (δb x s) (cN x s) (fun p=>(p.1,δc x p.2))) (hf:∀ x s,VN fe (δc x s) (fN x s) (fun q=>(e' q.1,δc x q.2))) (hw:∀ x s,Ya vs (δc x s) = st s):∀ (xs:List ι) (s:σ) (z:List τ × σ),Q4m cN fN xs s = some z → Wn T vs cc fe (xs.map e) (st s) = some (z.1.map e',st z.2)
 | [],s,z,h=>by cases h; rfl
 | x :: xs,s,z,h=>by
  unfold Q4m at h
  obtain ⟨p,hp,h⟩:=Xs h
  rw [Qm]
  unfold Wn
  rw [hT x s,Q1,hc x s p hp,Q1]
  obtain ⟨b,s1⟩:=p
  cases b
  ·show Wn T vs cc fe (xs.map e) (Ya vs (δc x s1)) = _
   rw [hw]
   exact Q5M hT hc hf hw xs s1 z h
  ·obtain ⟨q,hq,h⟩:=Xs h
   obtain ⟨w,hw2,rfl⟩:=Wr h
   show (fe (δc x s1)).bind _ = _
   rw [hf x s1 q hq,Q1]
   show (Wn T vs cc fe (xs.map e) (Ya vs (δc x q.2))).map _ = _
   rw [hw,Q5M hT hc hf hw xs q.2 w hw2]
   rfl
theorem QcT {st:σ → List Sl} {s0:σ} {cN:ι → σ → Option (Bool × σ)} {fN:ι → σ → Option (τ × σ)} {δb δc:ι → σ → List Sl} (hi:AP fi δ (xs.map e)) (hT:∀ x s,Y7 T (e x) (st s) = some (δb x s)) (hc:∀ x s,TN cc (δb x s) (cN x s) (fun p=>(p.1,δc x p.2))) (hf:∀ x s,VN fe (δc x s) (fN x s) (fun q=>(e' q.1,δc x q.2))) (h0:δ = st s0:=by rfl) (hw:∀ x s,Ya vs (δc x s) = st s:=by intro _ _; rfl) (hn:noS vs δ = true:=by rfl):VN (fLc T vs fi cc fe) δ (Wm xs (Q4m cN fN xs s0)) (fun z=>(eLi e' z.1,st z.2)):=fun z hz=>by
 unfold Wm at hz
 split at hz
 ·rename_i c
  unfold fLc
  rw [show fi δ = some (xs.map e,δ) from hi,Q1,if_pos (by rw [hn,Q3,decide_eq_true c]; rfl)]
  subst h0
  rw [Q5M hT hc hf hw xs s0 z hz]
  rfl
 ·cases hz
theorem Q4O {fN:ι → σ → Option (τ × σ)}:∀ (xs:List ι) (s:σ),Q4m (fun _ s=>some (true,s)) fN xs s = Q4s fN xs s
 | [],s=>rfl
 | x :: xs,s=>by
  unfold Q4m Q4s
  simp only [Q1]
  exact congrArg _ (funext fun q=>by rw [Q4O])
theorem Q3w {st:σ → List Sl} {s0:σ} {fN:ι → σ → Option (τ × σ)} {δb:ι → σ → List Sl} (hi:AP fi δ (xs.map e)) (hT:∀ x s,Y7 T (e x) (st s) = some (δb x s)) (hf:∀ x s,VN fe (δb x s) (fN x s) (fun q=>(e' q.1,δb x q.2))) (h0:δ = st s0:=by rfl) (hw:∀ x s,Ya vs (δb x s) = st s:=by intro _ _; rfl) (hn:noS vs δ = true:=by rfl):VN (fLc T vs fi Q0h fe) δ (Wm xs (Q4s fN xs s0)) (fun z=>(eLi e' z.1,st z.2)):=by
 rw [← Q4O]
 exact QcT (cc:=Q0h) (δb:=δb) (δc:=δb) hi hT (fun x s p hp=>by cases hp; rfl) hf h0 hw hn
theorem Q5H {cN:ι → Option Bool} {fN:ι → Option τ} {δb:ι → List Sl} (hT:∀ x,Y7 T (e x) δ = some (δb x)) (hc:∀ x,TN cc (δb x) (cN x) (fun p=>(p,δb x))) (hf:∀ x,VN fe (δb x) (fN x) (fun q=>(e' q,δb x))) (hw:∀ x,Ya vs (δb x) = δ):∀ (xs:List ι) (z:List τ),Q2K cN fN xs = some z → Wn T vs cc fe (xs.map e) δ = some (z.map e',δ)
 | [],z,h=>by cases h; rfl
 | x :: xs,z,h=>by
  unfold Q2K at h
  obtain ⟨b,hb,h⟩:=Xs h
  rw [Qm]
  unfold Wn
  rw [hT x,Q1,hc x b hb,Q1]
  cases b
  ·show Wn T vs cc fe (xs.map e) (Ya vs (δb x)) = _
   rw [hw]
   exact Q5H hT hc hf hw xs z h
  ·obtain ⟨q,hq,h⟩:=Xs h
   obtain ⟨w,hw2,rfl⟩:=Wr h
   show (fe (δb x)).bind _ = _
   rw [hf x q hq,Q1]
   show (Wn T vs cc fe (xs.map e) (Ya vs (δb x))).map _ = _
   rw [hw,Q5H hT hc hf hw xs w hw2]
   rfl
theorem Q7p {cN:ι → Option Bool} {fN:ι → Option τ} {δb:ι → List Sl} (hi:AP fi δ (xs.map e)) (hT:∀ x,Y7 T (e x) δ = some (δb x)) (hc:∀ x,TN cc (δb x) (cN x) (fun p=>(p,δb x))) (hf:∀ x,VN fe (δb x) (fN x) (fun q=>(e' q,δb x))) (hw:∀ x,Ya vs (δb x) = δ:=by intro _; rfl) (hn:noS vs δ = true:=by rfl):VN (fLc T vs fi cc fe) δ (Wm xs (Q2K cN fN xs)) (fun z=>(eLi e' z,δ)):=fun z hz=>by
 unfold Wm at hz
 split at hz
 ·rename_i c
  unfold fLc
  rw [show fi δ = some (xs.map e,δ) from hi,Q1,if_pos (by rw [hn,Q3,decide_eq_true c]; rfl),Q5H hT hc hf hw xs z hz]
  rfl
 ·cases hz
theorem Q6x {fN:ι → Option τ}:∀ (xs:List ι),Q2K (fun _=>some true) fN xs = mapM fN xs
 | []=>rfl
 | x :: xs=>by
  unfold Q2K mapM
  simp only [Q1]
  exact congrArg _ (funext fun q=>by rw [Q6x])
theorem Q0s {fN:ι → Option τ} {δb:ι → List Sl} (hi:AP fi δ (xs.map e)) (hT:∀ x,Y7 T (e x) δ = some (δb x)) (hf:∀ x,VN fe (δb x) (fN x) (fun q=>(e' q,δb x))) (hw:∀ x,Ya vs (δb x) = δ:=by intro _; rfl) (hn:noS vs δ = true:=by rfl):VN (fLc T vs fi Q0h fe) δ (Wm xs (mapM fN xs)) (fun z=>(eLi e' z,δ)):=by
 rw [← Q6x]
 exact Q7p (cc:=Q0h) (δb:=δb) hi hT (fun x p hp=>by cases hp; rfl) hf hw hn
theorem Q1S {r:α → List D × List Sl} {o':α → Option β} {r':α → β → D × List Sl} (hi:AN fi δ o r) (h:∀ x,VN (fLc T vs (fun δ=>some ((r x).1,δ)) cc fe) (r x).2 (o' x) (r' x)):VN (fLc T vs fi cc fe) δ (o.bind fun x=>(o' x).map fun y=>(x,y)) (fun p=>r' p.1 p.2):=fun p hp=>by
 obtain ⟨x,hx,hp⟩:=Xs hp
 obtain ⟨y,hy,rfl⟩:=Wr hp
 have:=h x y hy
 unfold fLc at this ⊢
 rw [Q1] at this
 rw [hi x hx,Q1]
 exact this
theorem Za:AP (fun δ=>some (ds,δ)) δ ds:=rfl
end
end Z
namespace Z
open PySem PySem.Spec PyProof.Rows L2
abbrev Fg:=List Sl → Option Out
inductive Oc where
 | nx (δ:List Sl)
 | lp (δ:List Sl)
 | rt (d:D) (outs:List Sl)
def OcR (as:List Sl → Option (List Sl)) (x:Option Out):Oc → Prop
 | .nx δ'=>x = some (.nx δ')
 | .lp δ'=>x = some (.nx δ') ∨ x = some (.ct δ')
 | .rt d outs=>∃ δ',x = some (.rt d δ') ∧ as δ' = some outs
def SB {α:Type} (as:List Sl → Option (List Sl)) (g:Fg) (δ:List Sl) (o:Option α) (r:α → Oc):Prop:=∀ a,o = some a → OcR as (g δ) (r a)
section
variable {α β γ σ ρ:Type} {as:List Sl → Option (List Sl)} {δ δ1:List Sl} {d a b c z:D} {fa fb fc f:Fe} {o:Option β} {g g' ga gb:Fg} {r:β → Oc} {oe:Option α} {re:α → D × List Sl} {ok:α → Option β}
theorem Yv (h:g δ = some (.nx δ1)):Ju g g' δ = g' δ1:=by
 unfold Ju
 rw [h]
 rfl
theorem Q60 {i:Nat} (h:VP f δ d) (k:SB as g' (δ.set i (.fz d)) o r) (hi:decide (i < δ.length) = true:=by rfl):SB as (Ju (Ys i f) g') δ o r:=fun v hv=>by
 rw [Yv (δ1:=δ.set i (.fz d))]
 ·exact k v hv
 ·unfold Ys
  rw [show f δ = some (d,δ) from h]
  exact if_pos (of_decide_eq_true hi)
theorem Qbx {i:Nat} {e:α → D} {v:α} (h:VP f δ (e v)) (k:∀ x,SB as g' (δ.set i (.fz (e x))) (ok x) r) (hi:decide (i < δ.length) = true:=by rfl):SB as (Ju (Ys i f) g') δ (Q2u v ok) r:=Q60 h (k v) hi
theorem Yh {i:Nat} (h:VN f δ oe re) (k:∀ x,SB as g' ((re x).2.set i (.fz (re x).1)) (ok x) r) (hi:∀ x,decide (i < (re x).2.length) = true:=by intro _; rfl):SB as (Ju (Ys i f) g') δ (oe.bind ok) r:=fun v hv=>by
 obtain ⟨x,hx,hv⟩:=Xs hv
 rw [Yv (δ1:=(re x).2.set i (.fz (re x).1))]
 ·exact k x v hv
 ·unfold Ys
  rw [h x hx]
  exact if_pos (of_decide_eq_true (hi x))
theorem Q2e {i:Nat} {e:γ → D} {m:α → γ} {ok:α → γ → Option β} (h:VN f δ oe re) (hm:∀ x,(re x).1 = e (m x)) (k:∀ x y,SB as g' ((re x).2.set i (.fz (e y))) (ok x y) r) (hi:∀ x,decide (i < (re x).2.length) = true:=by intro _; rfl):SB as (Ju (Ys i f) g') δ (oe.bind fun x=>Q2u (m x) fun y=>ok x y) r :=
 Yh h (fun x=>by rw [hm x]; exact k x (m x)) hi
theorem Q7M {i:Nat} (h:VP f δ d) (k:SB as g' (δ.set i (.ow d)) o r) (hi:decide (i < δ.length) = true:=by rfl):SB as (Ju (Zk i f) g') δ o r:=fun v hv=>by
 rw [Yv (δ1:=δ.set i (.ow d))]
 ·exact k v hv
 ·unfold Zk
  rw [show f δ = some (d,δ) from h]
  exact if_pos (of_decide_eq_true hi)
theorem Q8f {i:Nat} {e:α → D} {v:α} (h:VP f δ (e v)) (k:∀ x,SB as g' (δ.set i (.ow (e x))) (ok x) r) (hi:decide (i < δ.length) = true:=by rfl):SB as (Ju (Zk i f) g') δ (Q2u v ok) r:=Q7M h (k v) hi
theorem Z2 {i:Nat} (h:VN f δ oe re) (k:∀ x,SB as g' ((re x).2.set i (.ow (re x).1)) (ok x) r) (hi:∀ x,decide (i < (re x).2.length) = true:=by intro _; rfl):SB as (Ju (Zk i f) g') δ (oe.bind ok) r:=fun v hv=>by
 obtain ⟨x,hx,hv⟩:=Xs hv
 rw [Yv (δ1:=(re x).2.set i (.ow (re x).1))]
 ·exact k x v hv
 ·unfold Zk
  rw [h x hx]
  exact if_pos (of_decide_eq_true (hi x))
theorem Q5G (h:VN f δ oe re) (k:∀ x,SB as g' (re x).2 (ok x) r):SB as (Ju (Q3q f) g') δ (oe.bind ok) r:=fun v hv=>by
 obtain ⟨x,hx,hv⟩:=Xs hv
 rw [Yv (δ1:=(re x).2)]
 ·exact k x v hv
 ·unfold Q3q
  rw [h x hx]
  rfl
variable {T:Tt} {fs:Fs} {ds:List D}
theorem QaC (h:VP f δ d) (hb:Y7 T d δ = some δ1) (k:SB as g' δ1 o r):SB as (Ju (Q3r T f) g') δ o r:=fun v hv=>by
 rw [Yv (δ1:=δ1)]
 ·exact k v hv
 ·unfold Q3r
  rw [show f δ = some (d,δ) from h,Q1,hb]
  rfl
theorem Q3t {δx:α → List Sl} (h:VN f δ oe re) (hb:∀ x,Y7 T (re x).1 (re x).2 = some (δx x)) (k:∀ x,SB as g' (δx x) (ok x) r):SB as (Ju (Q3r T f) g') δ (oe.bind ok) r:=fun v hv=>by
 obtain ⟨x,hx,hv⟩:=Xs hv
 rw [Yv (δ1:=δx x)]
 ·exact k x v hv
 ·unfold Q3r
  rw [h x hx,Q1,hb x]
  rfl
theorem Qa8 {i j:Nat} {rs:α → List D × List Sl} {a b:α → D} (h:AN fs δ oe rs) (hr:∀ x,(rs x).1 = [a x,b x]) (k:∀ x,SB as g' (((rs x).2.set i (.fz (a x))).set j (.fz (b x))) (ok x) r) (hi:∀ x,decide (i < (rs x).2.length ∧ j < (rs x).2.length) = true:=by intro _; rfl):SB as (Ju (Q6L i j fs) g') δ (oe.bind ok) r:=fun v hv=>by
 obtain ⟨x,hx,hv⟩:=Xs hv
 rw [Yv (δ1:=((rs x).2.set i (.fz (a x))).set j (.fz (b x)))]
 ·exact k x v hv
 ·unfold Q6L
  rw [h x hx,show rs x = ([a x,b x],(rs x).2) from by rw [← hr x]]
  exact if_pos (of_decide_eq_true (hi x))
theorem Q23 {i:Nat} {w kk:D} {q:Option α} {e:α → D} (hv:VP fb δ w) (hk:VP fa δ kk) (hd:δ[i]? = some (.ow d)) (hz:∀ v,q = some v → Q4c d kk w = some (e v)) (k:∀ x,SB as g' (δ.set i (.ow (e x))) (ok x) r):SB as (Ju (Q0l i fa fb) g') δ (q.bind ok) r:=fun v hv'=>by
 obtain ⟨x,hx,hv'⟩:=Xs hv'
 have ho:Q2c i δ = some d:=by unfold Q2c; rw [hd]
 rw [Yv (δ1:=δ.set i (.ow (e x)))]
 ·exact k x v hv'
 ·unfold Q0l
  rw [show fb δ = some (w,δ) from hv,Q1,ho,Q1,show fa δ = some (kk,δ) from hk,Q1,ho,Q1,hz x hx]
  rfl
theorem Q3A {i:Nat} {kk dd:α → D} {q:α → Option γ} {e:α → γ → D} {ok:α → γ → Option β} (hv:VN fb δ oe re) (hk:∀ x,VP fa (re x).2 (kk x)) (hd:∀ x,(re x).2[i]? = some (.ow (dd x))) (hz:∀ x v,q x = some v → Q4c (dd x) (kk x) (re x).1 = some (e x v)) (k:∀ x y,SB as g' ((re x).2.set i (.ow (e x y))) (ok x y) r):SB as (Ju (Q0l i fa fb) g') δ (oe.bind fun x=>(q x).bind fun y=>ok x y) r:=fun v hv'=>by
 obtain ⟨x,hx,hv'⟩:=Xs hv'
 obtain ⟨y,hy,hv'⟩:=Xs hv'
 have ho:Q2c i (re x).2 = some (dd x):=by unfold Q2c; rw [hd x]
 rw [Yv (δ1:=(re x).2.set i (.ow (e x y)))]
 ·exact k x y v hv'
 ·unfold Q0l
  rw [hv x hx,Q1,ho,Q1,show fa (re x).2 = some (kk x,(re x).2) from hk x,Q1,ho,Q1,hz x y hy]
  rfl
variable {cc:Fb} {s:Bool} {oa ob:Option β}
theorem Q6q (hc:TP cc δ s) (ha:SB as (Ju ga g') δ oa r) (hb:SB as (Ju gb g') δ ob r):SB as (Ju (sIf cc ga gb) g') δ (if s then oa else ob) r:=fun v hv=>by
 have e:Ju (sIf cc ga gb) g' δ = if s then Ju ga g' δ else Ju gb g' δ:=by
  unfold Ju sIf
  rw [show cc δ = some (s,δ) from hc]
  cases s <;> rfl
 rw [e]
 cases s
 ·exact hb v hv
 ·exact ha v hv
theorem Q47 {oc:Option α} {rc:α → Bool × List Sl} {bb:α → Bool} {oa ob:α → Option β} (hc:TN cc δ oc rc) (hb:∀ x,(rc x).1 = bb x) (ha:∀ x,SB as (Ju ga g') (rc x).2 (oa x) r) (hb2:∀ x,SB as (Ju gb g') (rc x).2 (ob x) r):SB as (Ju (sIf cc ga gb) g') δ (oc.bind fun x=>if bb x then oa x else ob x) r:=fun v hv=>by
 obtain ⟨x,hx,hv⟩:=Xs hv
 have e:Ju (sIf cc ga gb) g' δ = if bb x then Ju ga g' (rc x).2 else Ju gb g' (rc x).2:=by
  unfold Ju sIf
  rw [hc x hx,Q1,hb x]
  cases bb x <;> rfl
 rw [e]
 cases e2:bb x with
 | false=>rw [e2] at hv; exact hb2 x v hv
 | true=>rw [e2] at hv; exact ha x v hv
theorem K3 {st:σ → List Sl} {oi:Option σ} {ok:σ → Option β} (h:SB as g δ oi (fun s=>.nx (st s))) (k:∀ s,SB as g' (st s) (ok s) r):SB as (Ju g g') δ (oi.bind ok) r:=fun v hv=>by
 obtain ⟨x,hx,hv⟩:=Xs hv
 rw [Yv (h x hx)]
 exact k x v hv
theorem Q61 {oa ob:Option β} (hc:TP cc δ s) (ha:SB as ga δ oa r) (hb:SB as gb δ ob r):SB as (sIf cc ga gb) δ (if s then oa else ob) r:=fun v hv=>by
 have e:sIf cc ga gb δ = if s then ga δ else gb δ:=by
  unfold sIf
  rw [show cc δ = some (s,δ) from hc]
  cases s <;> rfl
 rw [e]
 cases s
 ·exact hb v hv
 ·exact ha v hv
theorem Q1l {oc:Option α} {rc:α → Bool × List Sl} {bb:α → Bool} {oa ob:α → Option β} (hc:TN cc δ oc rc) (hb:∀ x,(rc x).1 = bb x) (ha:∀ x,SB as ga (rc x).2 (oa x) r) (hb2:∀ x,SB as gb (rc x).2 (ob x) r):SB as (sIf cc ga gb) δ (oc.bind fun x=>if bb x then oa x else ob x) r:=fun v hv=>by
 obtain ⟨x,hx,hv⟩:=Xs hv
 have e:sIf cc ga gb δ = if bb x then ga (rc x).2 else gb (rc x).2:=by
  unfold sIf
  rw [hc x hx,Q1,hb x]
  cases bb x <;> rfl
 rw [e]
 cases e2:bb x with
 | false=>rw [e2] at hv; exact hb2 x v hv
 | true=>rw [e2] at hv; exact ha x v hv
theorem Q7t {g1 g2 g3:Fg}:Ju (Ju g1 g2) g3 δ = Ju g1 (Ju g2 g3) δ:=by
 unfold Ju
 cases g1 δ with
 | none=>rfl
 | some o=>cases o <;> rfl
theorem Vi {g1 g2 g3:Fg} (h:SB as (Ju g1 (Ju g2 g3)) δ o r):SB as (Ju (Ju g1 g2) g3) δ o r:=fun v hv=>by
 rw [Q7t]
 exact h v hv
theorem X2 {δ':List Sl} (h:SB as g δ' o r) (e:δ = δ':=by rfl):SB as g δ o r:=e ▸ h
theorem g2x {g:D → D → Option D} {o:Option D} (h:g a b = o):g2 g [a,b] = o:=h
theorem K6 (h:SB as g' δ o r):SB as (Ju Xt g') δ o r:=h
theorem Zl {vs:List Nat} (h:SB as (Ju g g') (Ya vs δ) o r):SB as (Ju (Q2R vs g) g') δ o r:=h
theorem Ke {v:β} (h:r v = .nx δ):SB as Xt δ (some v) r:=fun w hw=>by cases hw; rw [h]; rfl
theorem Q8h {v:β} {vs:List Nat} (h:r v = .nx (Ya vs δ)):SB as (Kk vs) δ (some v) r:=fun w hw=>by cases hw; rw [h]; rfl
theorem Vf {v:β} {vs:List Nat} (h:r v = .lp (Ya vs δ)):SB as (Kk vs) δ (some v) r:=fun w hw=>by cases hw; rw [h]; exact .inl rfl
theorem Qb4 {v:β} {vs:List Nat} (h:r v = .lp (Ya vs δ)):SB as (Ju (Q7H vs) g') δ (some v) r:=fun w hw=>by cases hw; rw [h]; exact .inr rfl
theorem W9 {v:β} {outs:List Sl} (h:VP f δ d) (hr:r v = .rt d outs) (hm:as δ = some outs:=by rfl):SB as (Ju (Yl f) g') δ (some v) r:=fun w hw=>by
 cases hw
 rw [hr]
 refine ⟨δ,?_,hm⟩
 unfold Ju Yl
 rw [show f δ = some (d,δ) from h]
 rfl
theorem Yn {v:α → β} {outs:α → List Sl} (h:VN f δ oe re) (hr:∀ x,r (v x) = .rt (re x).1 (outs x)) (hm:∀ x,as (re x).2 = some (outs x):=by intro _; rfl):SB as (Ju (Yl f) g') δ (oe.bind fun x=>some (v x)) r:=fun w hw=>by
 obtain ⟨x,hx,hw⟩:=Xs hw
 cases hw
 rw [hr]
 refine ⟨_,?_,hm x⟩
 unfold Ju Yl
 rw [h x hx]
 rfl
theorem Q7Z {i:Nat} {v:β} {outs:List Sl} (h:δ[i]? = some (.ow d)) (hr:r v = .rt d outs) (hm:as δ = some outs:=by rfl):SB as (Ju (Q4I i) g') δ (some v) r:=fun w hw=>by
 cases hw
 rw [hr]
 refine ⟨δ,?_,hm⟩
 unfold Ju Q4I
 rw [h]
 rfl
variable {ι:Type} {e:ι → D} {fi:Fs} {body:Fg} {xs:List ι}
def Q1a (step:ι → σ → Option σ):List ι → σ → Option σ
 | [],s=>some s
 | x :: xs,s=>(step x s).bind fun s'=>Q1a step xs s'
def Q7o (step:ι → σ → Option (σ ⊕ ρ)):List ι → σ → Option (σ ⊕ ρ)
 | [],s=>some (.inl s)
 | x :: xs,s=>(step x s).bind fun w=>match w with
  | .inl s'=>Q7o step xs s'
  | .inr v=>some (.inr v)
def Q1Q (c:σ → Option Bool) (step:σ → Option σ):Nat → σ → Option σ
 | 0,_=>none
 | n + 1,s=>(c s).bind fun b=>match b with
  | true=>(step s).bind fun s'=>Q1Q c step n s'
  | false=>some s
theorem Q7g {st:σ → List Sl} {step:ι → σ → Option σ} {δb:ι → σ → List Sl} (hT:∀ x s,Y7 T (e x) (st s) = some (δb x s)) (hb:∀ x s,SB as body (δb x s) (step x s) (fun s'=>.lp (st s'))):∀ (xs:List ι) (s s':σ),Q1a step xs s = some s' → Q2l T body (xs.map e) (st s) = some (.nx (st s'))
 | [],s,s',h=>by cases h; rfl
 | x :: xs,s,s',h=>by
  unfold Q1a at h
  obtain ⟨s1,h1,h⟩:=Xs h
  rw [Qm]
  unfold Q2l
  rw [hT x s,Q1]
  rcases hb x s s1 h1 with q | q
  ·rw [q]; exact Q7g hT hb xs s1 s' h
  ·rw [q]; exact Q7g hT hb xs s1 s' h
theorem Q0u {st:σ → List Sl} {s0:σ} {step:ι → σ → Option σ} {δb:ι → σ → List Sl} {ok:σ → Option β} (hi:AP fi δ (xs.map e)) (hT:∀ x s,Y7 T (e x) (st s) = some (δb x s)) (hb:∀ x s,SB as body (δb x s) (step x s) (fun s'=>.lp (st s'))) (k:∀ s,SB as g' (st s) (ok s) r) (h0:δ = st s0:=by rfl):SB as (Ju (Zs T fi body) g') δ ((Q1a step xs s0).bind ok) r:=fun v hv=>by
 obtain ⟨s,hs,hv⟩:=Xs hv
 rw [Yv (δ1:=st s)]
 ·exact k s v hv
 ·unfold Zs
  rw [show fi δ = some (xs.map e,δ) from hi]
  subst h0
  exact Q7g hT hb xs s0 s hs
theorem Zz {rs:α → List D × List Sl} {ok:α → Option β} (hi:AN fi δ oe rs) (h:∀ x,SB as (Ju (Zs T (fun δ=>some ((rs x).1,δ)) body) g') (rs x).2 (ok x) r):SB as (Ju (Zs T fi body) g') δ (oe.bind ok) r:=fun v hv=>by
 obtain ⟨x,hx,hv⟩:=Xs hv
 have:=h x v hv
 have e:Ju (Zs T fi body) g' δ = Ju (Zs T (fun δ=>some ((rs x).1,δ)) body) g' (rs x).2:=by
  unfold Ju Zs
  rw [hi x hx]
 rw [e]
 exact this
theorem Q7f {st:σ → List Sl} {step:ι → σ → Option (σ ⊕ ρ)} {δb:ι → σ → List Sl} {rv:ρ → D} {ro:ρ → List Sl} (hT:∀ x s,Y7 T (e x) (st s) = some (δb x s)) (hb:∀ x s,SB as body (δb x s) (step x s) (Sum.elim (fun s'=>.lp (st s')) (fun v=>.rt (rv v) (ro v)))):∀ (xs:List ι) (s:σ) (w:σ ⊕ ρ),Q7o step xs s = some w → OcR as (Q2l T body (xs.map e) (st s)) (Sum.elim (fun s'=>.nx (st s')) (fun v=>.rt (rv v) (ro v)) w)
 | [],s,w,h=>by cases h; rfl
 | x :: xs,s,w,h=>by
  unfold Q7o at h
  obtain ⟨w1,h1,h⟩:=Xs h
  rw [Qm]
  unfold Q2l
  rw [hT x s,Q1]
  cases w1 with
  | inl s1 =>
   rcases hb x s _ h1 with q | q
   ·rw [q]; exact Q7f hT hb xs s1 w h
   ·rw [q]; exact Q7f hT hb xs s1 w h
  | inr v =>
   cases h
   obtain ⟨δ',q,q2⟩:=hb x s _ h1
   rw [q]
   exact ⟨δ',rfl,q2⟩
theorem QbV {st:σ → List Sl} {s0:σ} {step:ι → σ → Option (σ ⊕ ρ)} {δb:ι → σ → List Sl} {rv:ρ → D} {ro:ρ → List Sl} {ok:σ → Option β} {kr:ρ → Option β} (hi:AP fi δ (xs.map e)) (hT:∀ x s,Y7 T (e x) (st s) = some (δb x s)) (hb:∀ x s,SB as body (δb x s) (step x s) (Sum.elim (fun s'=>.lp (st s')) (fun v=>.rt (rv v) (ro v)))) (hr:∀ v,∃ a,kr v = some a ∧ r a = .rt (rv v) (ro v)) (k:∀ s,SB as g' (st s) (ok s) r) (h0:δ = st s0:=by rfl):SB as (Ju (Zs T fi body) g') δ ((Q7o step xs s0).bind (Sum.elim ok kr)) r:=fun v hv=>by
 obtain ⟨w,hw,hv⟩:=Xs hv
 subst h0
 have q:=Q7f hT hb xs s0 w hw
 have e1:Zs T fi body (st s0) = Q2l T body (xs.map e) (st s0):=by
  unfold Zs
  rw [show fi (st s0) = some (xs.map e,st s0) from hi]
  rfl
 cases w with
 | inl s =>
  rw [Yv (e1.trans q)]
  exact k s v hv
 | inr v1 =>
  obtain ⟨a,h1,h2⟩:=hr v1
  have:a = v:=by
   have h3:kr v1 = some v:=hv
   rw [h1] at h3
   exact J4.inj h3
  subst this
  rw [h2]
  obtain ⟨δ',q1,q2⟩:=q
  refine ⟨δ',?_,q2⟩
  unfold Ju
  rw [e1,q1]
  rfl
theorem Q46 {st:σ → List Sl} {cN:σ → Option Bool} {step:σ → Option σ} (hc:∀ s,TN cc (st s) (cN s) (fun b=>(b,st s))) (hb:∀ s,SB as body (st s) (step s) (fun s'=>.lp (st s'))):∀ (n:Nat) (s s':σ),Q1Q cN step n s = some s' → Q0a cc body n (st s) = some (.nx (st s'))
 | 0,s,s',h=>by cases h
 | n + 1,s,s',h=>by
  unfold Q1Q at h
  obtain ⟨b,h1,h⟩:=Xs h
  unfold Q0a
  rw [hc s b h1,Q1]
  cases b with
  | false=>cases h; rfl
  | true =>
   obtain ⟨s1,h2,h⟩:=Xs h
   show (body (st s)).bind _ = _
   rcases hb s s1 h2 with q | q
   ·rw [q]; exact Q46 hc hb n s1 s' h
   ·rw [q]; exact Q46 hc hb n s1 s' h
theorem Q9t {n:Nat} {st:σ → List Sl} {s0:σ} {cN:σ → Option Bool} {step:σ → Option σ} {ok:σ → Option β} (hc:∀ s,TN cc (st s) (cN s) (fun b=>(b,st s))) (hb:∀ s,SB as body (st s) (step s) (fun s'=>.lp (st s'))) (k:∀ s,SB as g' (st s) (ok s) r) (h0:δ = st s0:=by rfl):SB as (Ju (Q0a cc body n) g') δ ((Q1Q cN step n s0).bind ok) r:=fun v hv=>by
 obtain ⟨s,hs,hv⟩:=Xs hv
 subst h0
 rw [Yv (Q46 hc hb n s0 s hs)]
 exact k s v hv
theorem Kb {as:List Sl} {sg:List Bool} {m:Nat} {fr:Fr} {dv:β → D} {outs:β → List Sl} (h:SB (V6 as) g (as ++ Q8 (m - sg.length) .no) o (fun v=>.rt (dv v) (outs v))) (ha:Q1T sg as = true:=by rfl):∀ v,o = some v → fnF sg m fr g as = some (dv v,outs v):=fun v hv=>by
 obtain ⟨δ',h1,h2⟩:=h v hv
 unfold fnF
 rw [if_pos ha,h1]
 show (V6 as δ').map _ = _
 rw [h2]
 rfl
end
end Z
namespace Z
open PySem PySem.Spec PyProof.Rows L2
structure Gd {α:Type} (e:α → D) (n:Nat):Prop where
 pl:∀ a,(e a).plain = true
 dp:∀ a,(e a).depth ≤ n
 eq:∀ a b,Jh (e a) (e b) = true ↔ a = b
theorem gI:Gd Q0 0:=⟨fun _=>rfl,fun _=>J1 _,fun a b=>by simp [Jh]⟩
theorem gS:Gd Q2 0:=⟨fun _=>rfl,fun _=>J1 _,fun a b=>by simp [Jh]⟩
section
variable {α β γ κ μ τ:Type} {e:α → D} {e':β → D} {e3:γ → D} {e4:κ → D} {e5:μ → D} {n n2 n3 n4 n5:Nat}
theorem Q4Q (g:Gd e n):∀ xs:List α,Jc (xs.map e) = true
 | []=>rfl
 | x :: xs=>by
  show ((e x).plain && Jc (xs.map e)) = true
  rw [g.pl,Q4Q g xs]; rfl
theorem Q4S (g:Gd e n):∀ xs:List α,Qv (xs.map e) ≤ n
 | []=>Ja _
 | x :: xs=>by
  have:=Q4S g xs
  have:=g.dp x
  simp only [Qm,Qv]
  omega
theorem Q8c (g:Gd e n):∀ xs ys:List α,PyData.eqvAll (xs.map e) (ys.map e) = true ↔ xs = ys
 | [],[]=>by simp [PyData.eqvAll]
 | [],y :: ys=>by simp [PyData.eqvAll]
 | x :: xs,[]=>by simp [PyData.eqvAll]
 | x :: xs,y :: ys=>by
  simp only [Qm,PyData.eqvAll,Q6,g.eq,Q8c g xs ys,List.cons.injEq]
theorem gLi (g:Gd e n):Gd (eLi e) (n + 1):=⟨fun xs=>Q4Q g xs,fun xs=>by have:=Q4S g xs; simp only [eLi,PyData.depth]; omega,fun xs ys=>by simp only [eLi,Jh]; exact Q8c g xs ys⟩
theorem Q8x (g:Gd e n) (hn:n ≤ 64) (a:α):shp (e a) = true:=by
 unfold shp
 rw [g.pl,decide_eq_true (Qr (g.dp a) hn)]; rfl
theorem Q3P [DecidableEq α] (g:Gd e n) (a b:α) (hn:n ≤ 64:=by decide):bD eqD (e a) (e b) = some (.bool (decide (a = b))):=by
 unfold bD eqD
 rw [Q8x g hn,Q8x g hn]
 have:Jh (e a) (e b) = decide (a = b):=by
  rw [Bool.eq_iff_iff,g.eq,decide_eq_true_eq]
 simp [this]
theorem Q43 [DecidableEq α] (g:Gd e n) (a b:α) (hn:n ≤ 64:=by decide):bD neD (e a) (e b) = some (.bool (!decide (a = b))):=by
 unfold bD neD eqD
 rw [Q8x g hn,Q8x g hn]
 have:Jh (e a) (e b) = decide (a = b):=by
  rw [Bool.eq_iff_iff,g.eq,decide_eq_true_eq]
 simp [this]
theorem QaB (a b:Int):bD ltD (.int a) (.int b) = some (.bool (decide (a < b))):=rfl
theorem Q7C (a b:Int):bD leD (.int a) (.int b) = some (.bool (decide (a ≤ b))):=rfl
theorem gt_i (a b:Int):bD gtD (.int a) (.int b) = some (.bool (decide (b < a))):=rfl
def Q04 (a b:Int):Option Int:=if Wq a || Wq b then some (a * b) else none
theorem Q3R (a b v:Int) (h:Q04 a b = some v):Y6 (.int a) (.int b) = some (.int v):=by
 unfold Q04 at h
 split at h
 ·rename_i c
  cases h
  simp [Y6,Q6Z,c]
 ·cases h
theorem QdO (a:Int):Qdq (.int a) = some (.int (-a)):=rfl
def boI (b:Bool):Int:=if b then 1 else 0
theorem QaY (b:Bool):g1 Q8M [.bool b] = some (.int (boI b)):=rfl
def Q96 (a:Str):Option Int:=if a.length ≤ sizeLine then some (a.length:Int) else none
theorem Qdh (a:Str) (v:Int) (h:Q96 a = some v):g1 Zq [.str a] = some (.int v):=by
 unfold Q96 at h
 show (if a.length ≤ sizeLine then some (Q0 a.length) else none) = _
 split at h
 ·rename_i c
  cases h
  exact if_pos c
 ·cases h
def Q2E (d:D):Option Str:=(Q3f d).bind fun z=>match z with | .str s=>some s | _=>none
theorem Q8y (d:D) (v:Str) (h:Q2E d = some v):g1 Q3f [d] = some (.str v):=by
 unfold Q2E at h
 obtain ⟨z,h1,h2⟩:=Xs h
 show Q3f d = _
 rw [h1]
 cases z <;> first | cases h2; rfl | cases h2
def Q1v (a b:List α):Option (List α):=if a.length + b.length ≤ sizeLine then some (a ++ b) else none
theorem Q0R (a b v:List α) (h:Q1v a b = some v):Y8 (eLi e a) (eLi e b) = some (eLi e v):=by
 unfold Q1v at h
 unfold Y8
 show (none:Option D).or (if (a.map e).length + (b.map e).length ≤ sizeLine then some (Jd (a.map e ++ b.map e)) else none) = _
 split at h
 ·rename_i c
  cases h
  rw [Q3,Q3,if_pos c,← Jg]; rfl
 ·cases h
def Q92 (xs:List α) (k:Int):Option (List α):=if decide (0 ≤ k) && decide (k < 2 ^ 62) && decide (xs.length * k.toNat ≤ sizeLine) then some (Q8 k.toNat xs).flatten else none
theorem Q75 (f:α → β) (k:Nat) (xs:List α):(Q8 k (xs.map f)).flatten = (Q8 k xs).flatten.map f:=by
 rw [List.map_flatten,List.map_replicate]
def Q3L (xs:List α) (k:Int):Option (List α):=if (!xs.isEmpty) && decide (-1000 ≤ k) && decide (k ≤ 1000) && decide (xs.length ≤ 1000) then some (Q8 k.toNat xs).flatten else none
theorem Qaj (xs:List α) (k:Int) (v:List α) (h:Q3L xs k = some v):Y6 (eTu e xs) (.int k) = some (eTu e v):=by
 unfold Q3L at h
 unfold Y6
 show (if (!(xs.map e).isEmpty) && decide (-1000 ≤ k) && decide (k ≤ 1000) && decide ((xs.map e).length ≤ 1000) then some (PyData.tuple (Q8 k.toNat (xs.map e)).flatten) else none).or _ = _
 split at h
 ·rename_i c
  cases h
  rw [Q3,List.isEmpty_map,if_pos c,Q75]; rfl
 ·cases h
theorem QbK (f:α → β) (xs:List α) (i:Int):atI (xs.map f) i = (atI xs i).map f:=by
 unfold atI
 rw [Q3]
 cases ixN xs.length i with
 | none=>rfl
 | some j=>simp
theorem Zf (xs:List α) (i:Int) (v:α) (h:atI xs i = some v):Ye (eLi e xs) (.int i) = some (e v):=by
 show atI (xs.map e) i = _
 rw [QbK,h]; rfl
theorem Qbj (x:D) (r:List D):Ye (.tuple (x :: r)) (.int 0) = some x:=by
 show atI (x :: r) 0 = some x
 exact atI_nat (j:=0) rfl
theorem QaH (x y:D) (r:List D):Ye (.tuple (x :: y :: r)) (.int 1) = some y:=by
 show atI (x :: y :: r) 1 = some y
 exact atI_nat (j:=1) rfl
theorem ixp2 (x y z:D) (r:List D):Ye (.tuple (x :: y :: z :: r)) (.int 2) = some z:=by
 show atI (x :: y :: z :: r) 2 = some z
 exact atI_nat (j:=2) rfl
def sIx (z:Str) (i:Int):Option Str:=if z.length ≤ sizeLine then (atI z.cps.toList i).map fun c=>⟨#[c]⟩ else none
theorem Qe1 (z:Str) (i:Int) (v:Str) (h:sIx z i = some v):Ye (.str z) (.int i) = some (.str v):=by
 unfold sIx at h
 show (if z.length ≤ sizeLine then (atI z.cps.toList i).map fun c=>Q2 ⟨#[c]⟩ else none) = _
 split at h
 ·rename_i c
  rw [if_pos c]
  obtain ⟨q,h1,rfl⟩:=Wr h
  rw [h1]; rfl
 ·cases h
theorem Q7Y (f:α → β) (xs:List α) (lo hi:Option Int):Xi (xs.map f) lo hi = (Xi xs lo hi).map f:=by
 unfold Xi
 rw [Q3,List.map_take,List.map_drop]
theorem Q4X (xs:List α) (lo hi:Option Int):Q0I (eLi e xs) lo hi = some (eLi e (Xi xs lo hi)):=by
 show some (Jd (Xi (xs.map e) lo hi)) = _
 rw [Q7Y]; rfl
theorem Q6t (xs:List α) (lo hi:Option Int):Q0I (eTu e xs) lo hi = some (eTu e (Xi xs lo hi)):=by
 show some (PyData.tuple (Xi (xs.map e) lo hi)) = _
 rw [Q7Y]; rfl
def Q5Z (z:Str) (lo hi:Option Int):Option Str:=if z.length ≤ sizeLine then some (cutS z lo hi) else none
theorem Qco (z:Str) (lo hi:Option Int) (v:Str) (h:Q5Z z lo hi = some v):Q0I (.str z) lo hi = some (.str v):=by
 unfold Q5Z at h
 show (if z.length ≤ sizeLine then some (Q2 (cutS z lo hi)) else none) = _
 split at h
 ·rename_i c
  cases h
  exact if_pos c
 ·cases h
def Wo (xs:List α):Int:=(xs.length:Int)
theorem Q0c (xs:List α):g1 Zq [eLi e xs] = some (.int (Wo xs)):=by
 show some (Q0 (xs.map e).length) = _
 rw [Q3]; rfl
theorem Qdc (xs:List α):g1 Zq [eTu e xs] = some (.int (Wo xs)):=by
 show some (Q0 (xs.map e).length) = _
 rw [Q3]; rfl
theorem Qce (xs:List Int):g1 Q5R [eLi Q0 xs] = some (.int xs.sum):=by
 show (Vu (xs.map Q0)).map _ = _
 rw [Q0m]; rfl
theorem Q54:∀ xs:List Bool,Ku (xs.map Qg) = some xs
 | []=>rfl
 | b :: xs=>by
  show (Ku (xs.map Qg)).map (b :: ·) = _
  rw [Q54 xs]; rfl
theorem Qcy (xs:List Bool):g1 Q9V [eLi Qg xs] = some (.bool (xs.all id)):=by
 show (Ku (xs.map Qg)).map _ = _
 rw [Q54]; rfl
theorem Q5J (xs:List α):g1 Q7x [eLi e xs] = some (eTu e xs):=rfl
theorem Qbp (xs:List α):g1 Q4K [eLi e xs] = some (eLi e xs):=rfl
theorem Qbc (xs:List α):g1 Q4K [eTu e xs] = some (eLi e xs):=rfl
theorem Q2y (xs:List α):Yw (eLi e xs) = some (xs.map e):=rfl
theorem Qct (xs:List α):Yw (eTu e xs) = some (xs.map e):=rfl
theorem Qci (xs:List (α × β)):Yw (eDi e e' xs) = some ((xs.map (·.1)).map e):=by
 show some ((xs.map fun p=>(e p.1,e' p.2)).map (·.1)) = _
 rw [Qz,Qz]; rfl
def chN (z:Str):List Str:=z.cps.toList.map fun c=>⟨#[c]⟩
theorem QdF (z:Str):Yw (.str z) = some ((chN z).map Q2):=by
 show some (z.cps.toList.map fun c=>Q2 ⟨#[c]⟩) = _
 unfold chN
 rw [Qz]; rfl
def rgQ (i j:Int):Option (List Int):=if rgB i j then some (Q1w i (j - i).toNat) else none
theorem Qe4 (i j:Int) (v:List Int) (h:rgQ i j = some v):rgD (.int i) (.int j) = some (eLi Q0 v):=by
 unfold rgQ at h
 show (if rgB i j then some (Jd (Q1t i (j - i).toNat)) else none) = _
 split at h
 ·rename_i c
  cases h
  rw [if_pos c,Q3z]; rfl
 ·cases h
structure Sg {α:Type} (e:α → D):Prop where
 al:∀ a b,PySem.W.alike (e a) (e b) = true
def atomB (d:D):Bool:=match d with | .tuple (_ :: _)=>true | _=>false
def Q64 (xs:List (Int × β)):Option (List Int):=if xs.length < 64 then some ((xs.map (·.1)).mergeSort leI) else none
theorem QbN (xs:List (Int × β)) (v:List Int) (h:Q64 xs = some v):g1 Q5T [eDi Q0 e' xs] = some (eLi Q0 v):=by
 unfold Q64 at h
 split at h
 ·rename_i c
  cases h
  have q:Vu ((xs.map fun p=>(Q0 p.1,e' p.2)).map (·.1)) = some (xs.map (·.1)):=by
   rw [Qz]
   have:((·.1) ∘ fun p:Int × β=>(Q0 p.1,e' p.2)) = Q0 ∘ (·.1):=rfl
   rw [this,← Qz,Q0m]
  show (Vu ((xs.map fun p=>(Q0 p.1,e' p.2)).map (·.1))).bind _ = _
  rw [q,Q1,if_pos (by rw [Q3]; exact c)]
  rfl
 ·cases h
def Ve [DecidableEq α] (xs:List (α × β)) (k:α):Option β:=(xs.find? fun p=>decide (p.1 = k)).map (·.2)
def W5 [DecidableEq α] (xs:List (α × β)) (k:α) (v:β):List (α × β):=if xs.any (fun p=>decide (p.1 = k)) then xs.map (fun p=>if p.1 = k then (p.1,v) else p) else xs ++ [(k,v)]
def Q2z [DecidableEq α] (xs:List (α × β)) (k:α) (v:β):Option (List (α × β)):=if xs.length < sizeLine then some (W5 xs k v) else none
structure Kg {α:Type} (e:α → D) (f:α → Key):Prop where
 k:∀ a,Vg (e a) = some (f a)
 d:∀ a,Q4e (f a) = e a
 i:∀ a b,f a = f b → a = b
theorem kgI:Kg Q0 Sum.inl:=⟨fun _=>rfl,fun _=>rfl,fun a b h=>by cases h; rfl⟩
variable {kf:α → Key}
theorem Qaf [DecidableEq α] (g:Kg e kf) (xs:List (α × β)) (k:α):Q3M (xs.map fun p=>(e p.1,e' p.2)) (kf k) = (Ve xs k).map e':=by
 unfold Q3M Ve
 have hf:((fun p=>decide (Vg p.1 = some (kf k))) ∘ fun p:α × β=>(e p.1,e' p.2)) = fun p=>decide (p.1 = k):=by
  funext p
  simp only [Function.comp,g.k,J4.injEq]
  by_cases h:p.1 = k
  ·simp [h]
  ·have hn:¬ kf p.1 = kf k:=fun z=>h (g.i _ _ z)
   simp [h,hn]
 rw [List.find?_map,Option.map_map,Option.map_map,hf]
 rfl
theorem Q3m [DecidableEq α] (g:Kg e kf) (xs:List (α × β)) (k:α) (v:β) (h:Ve xs k = some v):Ye (eDi e e' xs) (e k) = some (e' v):=by
 have q:Ye (eDi e e' xs) (e k) = (Vg (e k)).bind (Q3M (xs.map fun p=>(e p.1,e' p.2))):=by
  unfold Ye eDi
  cases e k <;> rfl
 rw [q,g.k,Q1,Qaf g,h]; rfl
theorem Q5C [DecidableEq α] (g:Kg e kf) (xs:List (α × β)) (k:α) (v:β) (w:List (α × β)) (h:Q2z xs k v = some w):Q4c (eDi e e' xs) (e k) (e' v) = some (eDi e e' w):=by
 unfold Q2z at h
 split at h
 ·rename_i c
  cases h
  have q:Q4c (eDi e e' xs) (e k) (e' v) = (Vg (e k)).bind fun k=>if (xs.map fun p=>(e p.1,e' p.2)).length < sizeLine then some (.dict (Q90 (xs.map fun p=>(e p.1,e' p.2)) k (e' v))) else none:=by
   unfold Q4c eDi
   cases e k <;> rfl
  rw [q,g.k,Q1,Q3,if_pos c]
  have hd:∀ p:α × β,decide (Vg (e p.1) = some (kf k)) = decide (p.1 = k):=fun p=>by
   simp only [g.k,J4.injEq]
   by_cases h:p.1 = k
   ·simp [h]
   ·have hn:¬ kf p.1 = kf k:=fun z=>h (g.i _ _ z)
    simp [h,hn]
  congr 1
  unfold eDi Q90 W5
  rw [List.any_map]
  have ha:(fun p=>decide (Vg p.1 = some (kf k))) ∘ (fun p:α × β=>(e p.1,e' p.2)) = fun p=>decide (p.1 = k):=by
   funext p
   exact hd p
  rw [ha]
  split
  ·rw [Qz,Qz]
   congr 1
   apply List.map_congr_left
   intro p _
   simp only [Function.comp]
   have:=hd p
   by_cases h:p.1 = k
   ·rw [if_pos (by rw [h,g.k]),if_pos h]
   ·rw [if_neg (fun z=>h (g.i _ _ (by rw [g.k] at z; exact J4.inj z))),if_neg h]
  ·rw [Jg,g.d]; rfl
 ·cases h
def Q0J (xs:List α) (i:Int) (v:α):Option (List α):=(ixN xs.length i).map fun j=>xs.set j v
theorem Q0Y (xs:List α) (i:Int) (v:α) (w:List α) (h:Q0J xs i v = some w):Q4c (eLi e xs) (.int i) (e v) = some (eLi e w):=by
 unfold Q0J at h
 obtain ⟨j,h1,rfl⟩:=Wr h
 show (ixN (xs.map e).length i).map _ = _
 rw [Q3,h1,Qb,← List.map_set]; rfl
theorem Q4U (f:α → β):∀ (xs:List α) (i:Nat),(xs.map f).eraseIdx i = (xs.eraseIdx i).map f
 | [],_=>rfl
 | x :: xs,0=>rfl
 | x :: xs,i + 1=>by simp [List.eraseIdx,Q4U f xs i]
variable {δ:List Sl} {fa:Fe} {o:Option γ} {r:γ → D × List Sl}
def Q5P (xs:List α) (x:α):Option (List α):=if xs.length < sizeLine then some (xs ++ [x]) else none
def QbQ (xs ys:List α):Option (List α):=if xs.length + ys.length ≤ sizeLine then some (xs ++ ys) else none
def Q2Y (xs:List α) (n:Int):Option (α × List α):=if 0 ≤ n ∧ xs.length ≤ sizeLine then (xs[n.toNat]?).map fun x=>(x,xs.eraseIdx n.toNat) else none
theorem QcL (i:Nat) {xs:List α} {x:α} (h:VP fa δ (e x)) (hi:δ[i]? = some (.ow (eLi e xs)):=by rfl):VN (Q71 i fa) δ (Q5P xs x) (fun ys=>(.none,δ.set i (.ow (eLi e ys)))):=fun ys hy=>by
 unfold Q5P at hy
 have ho:ownL i δ = some (xs.map e):=by unfold ownL; rw [hi]; rfl
 unfold Q71
 rw [ho,Q1,show fa δ = some (e x,δ) from h,Q1,ho,Q1]
 split at hy
 ·rename_i c
  cases hy
  rw [if_pos (by rw [Q3]; exact c)]
  show some (PyData.none,δ.set i (.ow (.list (xs.map e ++ [e x])))) = _
  simp [eLi]
 ·cases hy
theorem Qda (i:Nat) {xs0:List α} {x:γ → α} {ys:γ → List α} (h:VN fa δ o r) (hx:∀ w,(r w).1 = e (x w)) (hi:∀ w,(r w).2[i]? = some (.ow (eLi e (ys w))):=by intro _; rfl) (hi0:δ[i]? = some (.ow (eLi e xs0)):=by rfl):VN (Q71 i fa) δ (o.bind fun w=>(Q5P (ys w) (x w)).map fun v=>(w,v)) (fun p=>(.none,(r p.1).2.set i (.ow (eLi e p.2)))):=fun p hp=>by
 obtain ⟨w,hw,hp⟩:=Xs hp
 obtain ⟨v,hv,rfl⟩:=Wr hp
 unfold Q5P at hv
 have ho0:ownL i δ = some (xs0.map e):=by unfold ownL; rw [hi0]; rfl
 have ho:ownL i (r w).2 = some ((ys w).map e):=by unfold ownL; rw [hi w]; rfl
 unfold Q71
 rw [ho0,Q1,h w hw,Q1,ho,Q1]
 split at hv
 ·rename_i c
  cases hv
  rw [if_pos (by rw [Q3]; exact c)]
  show some (PyData.none,(r w).2.set i (.ow (.list ((ys w).map e ++ [(r w).1])))) = _
  simp [eLi,hx w]
 ·cases hv
theorem Qdw (i:Nat) {xs ys:List α} (h:VP fa δ (eLi e ys)) (hi:δ[i]? = some (.ow (eLi e xs)):=by rfl):VN (Q9o i fa) δ (QbQ xs ys) (fun ys=>(.none,δ.set i (.ow (eLi e ys)))):=fun zs hy=>by
 unfold QbQ at hy
 have ho:ownL i δ = some (xs.map e):=by unfold ownL; rw [hi]; rfl
 unfold Q9o
 rw [ho,Q1,show fa δ = some (.list (ys.map e),δ) from h,Q1]
 show (ownL i δ).bind _ = _
 rw [ho,Q1]
 split at hy
 ·rename_i c
  cases hy
  rw [if_pos (by rw [Q3,Q3]; exact c)]
  show some (PyData.none,δ.set i (.ow (.list (xs.map e ++ ys.map e)))) = _
  simp [eLi]
 ·cases hy
theorem Q6H (i:Nat) {xs0:List α} {ys:γ → List α} {m:γ → Int} (h:VN fa δ o r) (hx:∀ w,(r w).1 = .int (m w)) (hi:∀ w,(r w).2[i]? = some (.ow (eLi e (ys w))):=by intro _; rfl) (hi0:δ[i]? = some (.ow (eLi e xs0)):=by rfl):VN (Q34 i fa) δ (o.bind fun w=>(Q2Y (ys w) (m w)).map fun v=>(w,v)) (fun p=>(e p.2.1,(r p.1).2.set i (.ow (eLi e p.2.2)))):=fun p hp=>by
 obtain ⟨w,hw,hp⟩:=Xs hp
 obtain ⟨v,hv,rfl⟩:=Wr hp
 unfold Q2Y at hv
 have ho0:ownL i δ = some (xs0.map e):=by unfold ownL; rw [hi0]; rfl
 have ho:ownL i (r w).2 = some ((ys w).map e):=by unfold ownL; rw [hi w]; rfl
 split at hv
 ·rename_i c
  obtain ⟨x,h1,rfl⟩:=Wr hv
  unfold Q34
  rw [ho0,Q1,h w hw,Q1,show r w = (.int (m w),(r w).2) from by rw [← hx w]]
  show (ownL i (r w).2).bind _ = _
  rw [ho,Q1,if_pos (by rw [Q3]; exact c),Qo,h1]
  show some (e x,(r w).2.set i (.ow (.list (((ys w).map e).eraseIdx (m w).toNat)))) = _
  simp [eLi,Q4U]
 ·cases hv
theorem Q1I {z:γ → D} {f:Fe} (h:VN f δ o r) (e:∀ x,(r x).1 = z x):VN f δ o (fun x=>(z x,(r x).2)):=fun x hx=>by
 rw [h x hx]
 show some (r x) = some (z x,(r x).2)
 rw [← e x]
theorem Q9J {ga:Fb} {s:Bool} (h:TP ga δ s) {v:β} {r':β → Bool × List Sl} (e:(s,δ) = r' v):TN ga δ (some v) r':=fun y hy=>by
 cases hy
 exact (show ga δ = some (s,δ) from h).trans (by rw [e])
theorem coL {f:α → β} (h:∀ x,e x = e' (f x)) (xs:List α):eLi e xs = eLi e' (xs.map f):=by
 unfold eLi
 rw [Qz]
 exact congrArg Jd (List.map_congr_left fun x _=>h x)
theorem coP2 {α' β':Type} {u:α' → D} {w:β' → D} {f:α → α'} {g:β → β'} (h1:∀ x,e x = u (f x)) (h2:∀ x,e' x = w (g x)) (p:α × β):eP2 e e' p = eP2 u w (f p.1,g p.2):=by
 unfold eP2
 rw [h1,h2]
theorem Qch {w:τ → D} {f:α → τ} (h1:∀ x,e x = w (f x)) (p:α):eP1 e p = eTu w [f p]:=by
 unfold eP1 eTu
 rw [h1]; rfl
theorem Qdn (xs:List α) (k:Int) (v:List α) (h:Q92 xs k = some v):Q7I (eLi e xs) (.int k) = some (eLi e v):=by
 unfold Q92 at h
 show (if decide (0 ≤ k) && decide (k < 2 ^ 62) && decide ((xs.map e).length * k.toNat ≤ sizeLine) then some (Jd (Q8 k.toNat (xs.map e)).flatten) else none) = _
 split at h
 ·rename_i c
  cases h
  rw [Q3,if_pos c,Q75]; rfl
 ·cases h
def asI:D → Option Int | .int i=>some i | _=>none
def asS:D → Option Str | .str i=>some i | _=>none
theorem Qag (d:D) (v:Int) (h:asI d = some v):d = .int v:=by
 cases d <;> first | cases h; rfl | cases h
theorem Qde {f:D → Option α} (hf:∀ d v,f d = some v → d = e v):∀ (ds:List D) (vs:List α),ds.mapM f = some vs → ds = vs.map e
 | [],vs,h=>by simp at h; subst h; rfl
 | d :: ds,vs,h=>by
  rw [List.mapM_cons] at h
  obtain ⟨v,h1,h⟩:=Xs h
  obtain ⟨ws,h2,h⟩:=Xs h
  cases h
  rw [hf d v h1,Qde hf ds ws h2]; rfl
def Q8H (f:D → Option α) (g:D → Option β):D → Option (α × β) | .tuple [a,b]=>(f a).bind fun x=>(g b).map fun y=>(x,y) | _=>none
theorem QcM {f:D → Option α} {g:D → Option β} (hf:∀ d v,f d = some v → d = e v) (hg:∀ d v,g d = some v → d = e' v) (d:D) (v:α × β) (h:Q8H f g d = some v):d = eP2 e e' v:=by
 unfold Q8H at h
 split at h
 ·obtain ⟨x,h1,h⟩:=Xs h
  obtain ⟨y,h2,rfl⟩:=Wr h
  rw [hf _ _ h1,hg _ _ h2]; rfl
 ·cases h
theorem Q4a {f:D → Option β} (hf:∀ d v,f d = some v → d = e' v):∀ (ds:List D) (vs:List β),ds.mapM f = some vs → ds.map eD = vs.map e'
 | [],vs,h=>by simp at h; subst h; rfl
 | d :: ds,vs,h=>by
  rw [List.mapM_cons] at h
  obtain ⟨v,h1,h⟩:=Xs h
  obtain ⟨ws,h2,h⟩:=Xs h
  cases h
  rw [Qm,Qm,Q4a hf ds ws h2,← hf d v h1]; rfl
theorem dnL {f:D → Option β} (hf:∀ d v,f d = some v → d = e' v) (ds:List D) (v:List β) (h:List.mapM f ds = some v):eLi eD ds = eLi e' v:=congrArg Jd (Q4a hf ds v h)
theorem Qdk {f:D → Option β} (hf:∀ d v,f d = some v → d = e' v) (ds:List D) (v:List β) (h:List.mapM f ds = some v):Yw (eLi eD ds) = some (v.map e'):=congrArg some (Q4a hf ds v h)
theorem QaU (d:D) (v:List D) (h:Yw d = some v):Yw d = some (v.map eD):=by
 rw [h]
 congr 1
 exact (List.map_id v).symm
def Q4d (ds:List D):Option (List D):=if Q1Z ds && Q39 ds && ds.all (fun d=>decide (d.depth ≤ 64)) then some (Q76 ds) else none
theorem Qcs (ds:List D):ds.map eD = ds:=List.map_id ds
theorem Q7W (ds v:List D) (h:Q4d ds = some v):g1 Q6u [eLi eD ds] = some (eLi eD v):=by
 unfold Q4d at h
 show (if Q1Z (ds.map eD) && Q39 (ds.map eD) && (ds.map eD).all (fun d=>decide (d.depth ≤ 64)) then some (Jd (Q76 (ds.map eD))) else none) = _
 rw [Qcs]
 split at h
 ·rename_i c
  cases h
  rw [if_pos c]
  unfold eLi
  rw [Qcs]
 ·cases h
def Q4N (ns:List Int):Dk:=⟨Yp ns,Q3C ns,0⟩
def V9 (k:Dk) (M:Int):Option (Int × Dk):=match Q3U [sDk k,.fz (.int M)] with
 | some (.int r,[.dk cs m n,.fz (.int M')])=>if M' = M then some (r,⟨cs,m,n⟩) else none
 | _=>none
theorem Qbe (k:Dk) (M:Int):∀ v,V9 k M = some v → Q3U [sDk k,.fz (.int M)] = some (.int v.1,[sDk v.2,.fz (.int M)]):=fun v h=>by
 unfold V9 at h
 split at h
 ·rename_i r cs m n M' e
  split at h
  ·rename_i c
   cases h
   subst c
   exact e
  ·cases h
 ·cases h
theorem QaZ (k:Dk) (M:Int) (hM:0 < M) (hM2:M < 2 ^ 30) (hc:k.cs.length ≤ 63):∃ r k',V9 k M = some (r,k') ∧ 0 ≤ r ∧ r < M ∧ k'.cs.length ≤ 63:=by
 obtain ⟨r,cs',n',h1,h2,h3,h4⟩:=Qbl k.cs k.m k.n M hM hM2 hc
 refine ⟨r,⟨cs',k.m,n'⟩,?_,h1,h2,h3⟩
 unfold V9
 show (match Q3U [.dk k.cs k.m k.n,.fz (.int M)] with | some (.int r,[.dk cs m n,.fz (.int M')])=>if M' = M then some (r,(⟨cs,m,n⟩:Dk)) else none | _=>none) = _
 rw [h4]
 exact if_pos rfl
theorem QbB {i j:Nat} {as:List Sl → Option (List Sl)} {g':Fg} {o:Option β} {r:β → Oc} {ns:List Int} (k:SB as g' (δ.set i (sDk (Q4N ns))) o r) (hj:δ[j]? = some (.scr ns):=by rfl) (hi:decide (i < δ.length) = true:=by rfl):SB as (Ju (Q6r i j) g') δ o r:=fun v hv=>by
 rw [Yv (δ1:=δ.set i (sDk (Q4N ns)))]
 ·exact k v hv
 ·unfold Q6r
  rw [hj]
  exact if_pos (of_decide_eq_true hi)
def PPr (f:List Sl → Option (List (D × D) × List Sl)) (δ:List Sl) (ds:List (D × D)):Prop:=f δ = some (ds,δ)
theorem Q9X:PPr QbM δ []:=rfl
theorem Q5m {fk fv:Fe} {fr:List Sl → Option (List (D × D) × List Sl)} {k v:D} {ds:List (D × D)} (hk:VP fk δ k) (hv:VP fv δ v) (hr:PPr fr δ ds):PPr (Q3W fk fv fr) δ ((k,v) :: ds):=by
 unfold PPr Q3W
 rw [show fk δ = some (k,δ) from hk,Q1,show fv δ = some (v,δ) from hv,Q1,show fr δ = some (ds,δ) from hr]
 rfl
theorem Q8w {fr:List Sl → Option (List (D × D) × List Sl)} {ds:List (D × D)} {ks:List Key} (h:PPr fr δ ds) (hk:Q20 ds = some ks) (hl:decide (ks.length ≤ 15) = true:=by rfl):VP (Q56 fr) δ (.dict ds):=by
 unfold VP Q56
 rw [show fr δ = some (ds,δ) from h,Q1,hk,Q1]
 exact if_pos (of_decide_eq_true hl)
theorem QcP (o:Option Bool) (v:Bool) (h:o = some v):o.map Qg = some (.bool v):=by rw [h]; rfl
end
end Z
namespace Z
open PySem PySem.Spec PyProof.Rows L2
variable {α β:Type}
theorem Q5b (e:α → D) (e':β → D):∀ (xs:List α) (ys:List β),((xs.map e).zip (ys.map e')).map Q6e = (xs.zip ys).map (eP2 e e')
 | [],_=>rfl
 | _ :: _,[]=>rfl
 | x :: xs,y :: ys=>by
  show Q6e (e x,e' y) :: ((xs.map e).zip (ys.map e')).map Q6e = eP2 e e' (x,y) :: (xs.zip ys).map (eP2 e e')
  rw [Q5b e e' xs ys]
  rfl
theorem Qc8 (e:α → D) (e':β → D) (xs:List α) (ys:List β):Q82 [eLi e xs,eLi e' ys] = some (eLi (eP2 e e') (xs.zip ys)):=congrArg (fun z=>some (Jd z)) (Q5b e e' xs ys)
end Z
namespace Z
open PySem PySem.Spec PyProof.Rows L2
end Z
namespace Z
open PySem PySem.Spec PyProof.Rows L2
end Z
namespace Z
open PySem PySem.Spec PyProof.Rows L2
variable {α β:Type} {e:α → D} {e':β → D} {kf:α → Key}
end Z
namespace Z
open PySem PySem.Spec PyProof.Rows L2
variable {α β:Type} {e:α → D} {e':β → D}
theorem QbE {α' β' γ' ε':Type} {fa fb:Fe} {δ:List Sl} {g':List Sl → Option Out} {oe:Option α'} {re:α' → D × List Sl} {i:Nat} {of:α' → Option β'} {rf:α' → β' → D × List Sl} {d0:α' → D} {dd:α' → β' → D} {q:α' → β' → Option γ'} {e:α' → β' → γ' → D} {ok:α' → β' → γ' → Option ε'} {as} {r} (hv:VN fb δ oe re) (hk:∀ x,VN fa (re x).2 (of x) (rf x)) (h0:∀ x,(re x).2[i]? = some (.ow (d0 x))) (hd:∀ x y,(rf x y).2[i]? = some (.ow (dd x y))) (hz:∀ x y v,q x y = some v → Q4c (dd x y) (rf x y).1 (re x).1 = some (e x y v)) (k:∀ x y z,SB as g' ((rf x y).2.set i (.ow (e x y z))) (ok x y z) r):SB as (Ju (Q0l i fa fb) g') δ (oe.bind fun x=>(of x).bind fun y=>(q x y).bind fun z=>ok x y z) r:=fun v hv'=>by
 obtain ⟨x,hx,hv'⟩:=Xs hv'
 obtain ⟨y,hy,hv'⟩:=Xs hv'
 obtain ⟨z,hz',hv'⟩:=Xs hv'
 have ho:Q2c i (re x).2 = some (d0 x):=by unfold Q2c; rw [h0 x]
 have ho2:Q2c i (rf x y).2 = some (dd x y):=by unfold Q2c; rw [hd x y]
 rw [Yv (δ1:=(rf x y).2.set i (.ow (e x y z)))]
 ·exact k x y z v hv'
 ·unfold Q0l
  rw [hv x hx,Q1,ho,Q1,hk x y hy,Q1,ho2,Q1,hz x y z hz']
  rfl

@[irreducible] def rngK (n:Int):List Int:=Q1w 0 n.toNat
theorem Q5Y (n:Int):rngK n = Q1w 0 n.toNat:=by unfold rngK; rfl
theorem QbO {j:Int} {δ:List Sl} {fr:List Sl → Option (List D × List Sl)} (h:AP fr δ [.int j]) (hj:W2 j = true:=by decide):AP (Q1Y fr) δ ((rngK j).map Q0):=by
 rw [Q5Y]
 exact Qbu h hj
end Z
namespace Z
open PySem PySem.Spec PyProof.Rows L2
section
variable {α β:Type}
structure Kx (e:α → D) (ke:α → NestedKey):Prop where
 nk:∀ a,Q1u (e a) = some (ke a)
 inj:∀ a b,ke a = ke b → a = b
 ok:∀ xs:List α,okB (xs.map e) = true
variable {e:α → D} {ke:α → NestedKey} [DecidableEq α]
end

end Z
namespace Z
open PySem PySem.Spec PyProof.Rows L2
end Z
namespace Z
open PySem PySem.Spec PyProof.Rows L2
end Z
namespace Z
open PySem PySem.Spec PyProof.Rows L2
end Z
namespace Z
open PySem PySem.Spec PyProof.Rows L2

end Z
namespace Z
open PySem PySem.Spec PyProof.Rows L2
end Z
namespace Z
open PySem PySem.Spec PyProof.Rows L2
end Z
namespace Z
open PySem PySem.Spec PyProof.Rows L2
def gd (g:List Sl → Bool) (f:List Sl → Option (D × List Sl)):List Sl → Option (D × List Sl):=fun δ=>if g δ = true then f δ else none
structure CF (K:PySem.W.Frag) (c f:Str):Prop where
 ex:∀ C,Q6g K c C → Cls K C ∧ NoAttr K C f
structure Rc (X:Cx) (i:Nat) (o:Expr) (g:List Sl → Bool):Prop where
 ex:∃ t,PE X o t ∧ ∀ (Y:Fx) (F H:Hp) (δ:List Sl) (σ:L2.St) (A:Nat → List Addr),SR X.K Y F H δ σ A → g δ = true → ∀ (v:V) (Q:VK),σ[i]? = some (some v) → Q v H → t σ H Q

end Z
namespace Z
open PySem PySem.Spec PyProof.Rows L2
def GE (X:Cx) (σ σ':L2.St):Prop:=σ'.length = σ.length ∧ ∀ (i:Nat) (x:Str),X.N[i]? = some x → Vis X.env.scope x → σ'[i]? = σ[i]?
theorem GE.symm {X:Cx} {σ σ':L2.St} (h:GE X σ σ'):GE X σ' σ:=⟨h.1.symm,fun i x a b=>(h.2 i x a b).symm⟩
inductive Rs where
 | ok (d:D)
 | ex (c:Str)
inductive FrO where
 | f (fr:Fr)
 | o (c:Str) (sh:List (Str × Bool))
def Qdb (K:PySem.W.Frag) (F H:Hp):List (Str × Bool) → List (Str × V) → List D → List Addr → Prop
 | [],[],[],L=>L = []
 | (f,false) :: sh,(g,v) :: fv,d :: ds,L=>g = f ∧ Rp K F v d ∧ Qdb K F H sh fv ds L
 | (f,true) :: sh,(g,v) :: fv,d :: ds,L=>∃ q L',v = .ref q ∧ L = q :: L' ∧ g = f ∧ Wz K F H q d ∧ Qdb K F H sh fv ds L'
 | _,_,_,_=>False
def QdV (K:PySem.W.Frag) (F H:Hp) (fresh:Addr → Prop) (c:Str) (sh:List (Str × Bool)) (v:V) (d:D):Prop :=
 ∃ p dx C fvs ds L,v = .ref p ∧ d = .tuple ds ∧ Q6g K c C ∧ H p = some (.ins C dx fvs) ∧ H dx = some (.own p) ∧ (p :: dx :: L).Nodup ∧ (∀ a ∈ p :: dx :: L,fresh a ∧ F a = none) ∧ Qdb K F H sh fvs ds L
def RetX (K:PySem.W.Frag) (A:Nat → List Addr) (fr:FrO) (H F' H':Hp) (v:V) (d:D):Prop :=
 match fr with
 | .f fr=>Ret K A fr H F' H' v d
 | .o c sh=>QdV K F' H' (fun a=>H a = none) c sh v d
def Fx.args (n:Nat):Fx:=⟨Iom.of fun i=>decide (n ≤ i),fun _=>false,fun i=>decide (n ≤ i),fun _=>none,fun _=>none,[],fun _=>[],fun _ _=>rfl⟩
structure StpX (A:Nat → List Addr) (mv:Nat → Bool) (N:Nat) (F H F' H':Hp):Prop where
 f:Same F F'
 nw:∀ a,F a = none → F' a ≠ none → H a = none ∨ ∃ j,mv j = true ∧ a ∈ A j
 kp:∀ a o,H a = some o → (∀ i,i < N → a ∉ A i) → H' a = some o
structure MvR (A A':Nat → List Addr) (mv:Nat → Bool) (H:Hp) (σ σ':L2.St):Prop where
 len:σ'.length = σ.length
 eq:∀ i,mv i = false → σ'[i]? = σ[i]? ∧ A' i = A i
 mv:∀ i a,mv i = true → a ∈ A' i → (∃ j,mv j = true ∧ a ∈ A j) ∨ H a = none
theorem MvR.same {A A':Nat → List Addr} {H:Hp} {σ σ':L2.St} (h:MvR A A' (fun _=>false) H σ σ'):σ' = σ ∧ A' = A :=
 ⟨List.ext_getElem? fun i=>(h.eq i rfl).1,funext fun i=>(h.eq i rfl).2⟩
def spX (K:PySem.W.Frag) (n m:Nat) (mv:Nat → Bool) (fr:FrO) (φ:List Sl → Option (Rs × List Sl)):Sp:=fun us H Q E =>
 ∃ (F:Hp) (as:List Sl) (A:Nat → List Addr) (τ:L2.St),us.length = n ∧ τ.length = m ∧ as.length = n + m ∧ SR K (Fx.args n) F H as (us.map some ++ τ) A ∧ ∃ r outs,φ as = some (r,outs) ∧
  ∀ F' H' σ' A',StpX A mv (n + m) F H F' H' → MvR A A' mv H (us.map some ++ τ) σ' → SR K (Fx.args n) F' H' outs σ' A' →
   match r with
   | .ok d=>∀ v,RetX K A fr H F' H' v d → Q v H'
   | .ex c=>∀ C,Q6g K c C → E (.ref C) none H'
inductive Ox where
 | o (o:Out)
 | ex (c:Str) (δ:List Sl)

end Z
namespace Z
open PySem PySem.Spec PyProof.Rows L2
open Classical in
/-- the heap of the entry,without what may be given anew -/
noncomputable def redH (B:Nat → List Addr) (mv:Nat → Bool) (H:Hp):Hp:=fun a=>if ∃ j,mv j = true ∧ a ∈ B j then none else H a
noncomputable def Fx.body (sg:List Bool) (n:Nat) (vl:List Nat) (mv:Nat → Bool) (H F:Hp) (σ:L2.St) (B:Nat → List Addr):Fx :=
 ⟨⟨fun i=>Kf sg i || vl.contains i,fun i=>mv i || vl.contains i⟩,fun i=>Kf sg i && !(mv i || vl.contains i),fun i=>(decide (n ≤ i) && decide (i < sg.length)) || vl.contains i,redH B mv H,F,σ,B,fun i h=>by
  have h:(mv i || vl.contains i) = true:=h
  rw [h]; simp⟩
structure XOk (sg:List Bool) (n m t:Nat) (vl:List Nat) (mv:Nat → Bool):Prop where
 len:sg.length = n + m
 le:n + m ≤ t
 vs:∀ i,n ≤ i → i < n + m → Kf sg i = true
 vl:∀ i,vl.contains i = true → n + m ≤ i ∧ i < t
 mv:∀ i,mv i = true → n ≤ i ∧ i < n + m


end Z
namespace Z
open PySem PySem.Spec PyProof.Rows L2

end Z
namespace Z
open PySem PySem.Spec PyProof.Rows L2

end Z
namespace Z
open PySem PySem.Spec PyProof.Rows L2
inductive Ra where
 | as (l:List Ar)
 | ex (c:Str)

structure KnX (X:Cx) (x:Str) (n m:Nat) (mv:Nat → Bool) (fr:FrO) (φ:List Sl → Option (Rs × List Sl)):Prop where
 ex:∃ (k:Nat) (a:Addr) (fd:FuncData) (ps:List Str),FnG X.prog X.w X.K X.mg X.base (CX X.prog X.w) k a fd ps (spX X.K n m mv fr φ) ∧ ps.length = n ∧ Room k X.A ∧ X.mg x = some (.ref a) ∧ PySem.W.keepIn X.K (.ref a) = true ∧ Binds X.K fd ps []
 gd:X.A.guards = some []
 gl:Gl X x
 db:(x == ("__debug__":Str)) = false
structure KnM (X:Cx) (c mth:Str) (n m:Nat) (mv:Nat → Bool) (fr:FrO) (φ:List Sl → Option (Rs × List Sl)):Prop where
 ex:∃ (C:Addr) (k:Nat) (a:Addr) (fd:FuncData) (ps:List Str),(∀ C',Q6g X.K c C' → C' = C) ∧ Cls X.K C ∧ Meth X.K C mth a ∧ FnG X.prog X.w X.K X.mg X.base (CX X.prog X.w) k a fd ps (spX X.K n m mv fr φ) ∧ ps.length = n ∧ Room k X.A ∧ Binds X.K fd ps []
 gd:X.A.guards = some []



end Z
namespace Z
open PySem PySem.Spec PyProof.Rows L2
section
variable {X:Cx} {W:WX} {io:Iom} {vt:Nat → Bool} {fr:FrO} {pos:Pos} {e a b:Expr} {f:List Sl → Option (Rs × List Sl)} {M Ma Mb:List Nat}
def x2 (g:D → D → Option D) (fa:List Sl → Option (Rs × List Sl)) (fb:List Sl → Option (D × List Sl)):List Sl → Option (Rs × List Sl):=fun δ=>(fa δ).bind fun p=>match p.1 with
 | .ex c=>some (.ex c,p.2)
 | .ok d=>(fb p.2).bind fun q=>(g d q.1).map fun z=>(.ok z,q.2)
def x3 (g:D → Option Int → Option Int → Option D) (fa:List Sl → Option (Rs × List Sl)) (fl fh:List Sl → Option (Option Int × List Sl)):List Sl → Option (Rs × List Sl):=fun δ=>(fa δ).bind fun p=>match p.1 with
 | .ex c=>some (.ex c,p.2)
 | .ok d=>(fl p.2).bind fun q=>(fh q.2).bind fun r=>(g d q.1 r.1).map fun z=>(.ok z,r.2)
structure XC (K:PySem.W.Frag) (mg:Str → Option Value) (c:Str):Prop where
 ex:∃ C,mg c = some (.ref C) ∧ Q6g K c C ∧ PySem.W.excIn K C [.type "ValueError",.type "Exception",.type "BaseException",.type "object"] "ValueError.__new__" = true ∧ PySem.W.keepIn K (.ref C) = true ∧ PySem.W.subIn K (.ref C) (.type "BaseException") = some true ∧ PySem.W.typeIn K (.ref C) = some (.type "type")
end
end Z
namespace Z
open PySem PySem.Spec PyProof.Rows L2

end Z
namespace Z
open PySem PySem.Spec PyProof.Rows L2

section
variable {X:Cx} {W:WX} {io:Iom} {vt:Nat → Bool} {fr:FrO} {pos:Pos} {e:Expr} {es:List Expr} {c x:Str} {sh:List (Str × Bool)} {M B js:List Nat} {n m:Nat} {φ:List Sl → Option (Rs × List Sl)}
structure KnC (X:Cx) (c:Str) (n m:Nat) (mv:Nat → Bool) (φ:List Sl → Option (Rs × List Sl)):Prop where
 ex:∃ (C:Addr) (k:Nat) (a:Addr) (fd:FuncData) (ps:List Str),Q6g X.K c C ∧ X.mg c = some (.ref C) ∧ L2.Mk X.K C a ∧ FnG X.prog X.w X.K X.mg X.base (CX X.prog X.w) k a fd ps (spX X.K n m mv (.f .n) φ) ∧ ps.length = n ∧ Room (k + 1) X.A ∧ Binds X.K fd ps []
 gd:X.A.guards = some []
 gl:Gl X c
 db:(c == ("__debug__":Str)) = false
end
end Z
namespace Z
open PySem PySem.Spec PyProof.Rows L2

end Z
namespace Z
open PySem PySem.Spec PyProof.Rows L2


end Z
namespace Z
open PySem PySem.Spec PyProof.Rows L2
structure ExcT (K:PySem.W.Frag) (mg:Str → Option Value) (ns:List Str):Prop where
 b:excB K ns = true
 m:∀ c C,Q6g K c C → mg c = some (.ref C)
section
variable {K:PySem.W.Frag} {mg:Str → Option Value} {ns:List Str}
structure ExcC1 (K:PySem.W.Frag) (C:Addr):Prop where
 e:PySem.W.excIn K C [.type "ValueError",.type "Exception",.type "BaseException",.type "object"] "ValueError.__new__" = true
 k:PySem.W.keepIn K (.ref C) = true
 s:PySem.W.subIn K (.ref C) (.type "BaseException") = some true
 t:PySem.W.typeIn K (.ref C) = some (.type "type")
 x:ExcC K C
 v:PySem.W.kitOne K (.ref C) (.type "ValueError") = some true
end


end Z
namespace Z
open PySem PySem.Spec PyProof.Rows L2
section
variable {X:Cx} {a C:Addr} {oe:Obj} {pn:List (Addr × Obj)} {c d ex:Str} {ns:List Str} {i:Nat} {p p1 p2 pos:Pos}
inductive Qd5 (X:Cx) (ns:List Str):List Expr → List Str → Prop
 | nil:Qd5 X ns [] []
 | cons {d:Str} {p:Pos} {es:List Expr} {ds:List Str}:ns.contains d = true → Gl X d → (d == ("__debug__":Str)) = false → starEach (.Name d p :: es) X.env = (false,eval (.Name d p) X.env) :: starEach es X.env → Qd5 X ns es ds → Qd5 X ns (.Name d p :: es) (d :: ds)
end
end Z
namespace Z
open PySem PySem.Spec PyProof.Rows L2


end Z
namespace Z
open PySem PySem.Spec PyProof.Rows L2
section
variable {X:Cx} {W:WX} {e kx:Expr} {es:List Expr} {pos spos np:Pos} {x:Str}
structure TabOk (P:Program) (w:World) (K:PySem.W.Frag) (mg:Str → Option Value) (base:Heap) (x:Str) (kk n m:Nat) (tab:List (Str × (List Sl → Option (Rs × List Sl)))):Prop where
 ex:∃ p:Addr,mg x = some (.ref p) ∧ ∀ z φ,tab.lookup z = some φ → ∃ (a:Addr) (fd:FuncData) (ps:List Str),KDct K w p z (.ref a) ∧ FnG P w K mg base (CX P w) kk a fd ps (spX K n m (fun _=>false) (.f .n) φ) ∧ ps.length = n ∧ PySem.W.keepIn K (.ref a) = true ∧ Binds K fd ps []
end
structure GX (P:Program) (w:World) (K:PySem.W.Frag) (mg:Str → Option Value) (base:Heap) (x:Str) (k n m:Nat) (mv:Nat → Bool) (fr:FrO) (φ:List Sl → Option (Rs × List Sl)):Prop where
 ex:∃ (a:Addr) (fd:FuncData) (ps:List Str),FnG P w K mg base (CX P w) k a fd ps (spX K n m mv fr φ) ∧ ps.length = n ∧ mg x = some (.ref a) ∧ PySem.W.keepIn K (.ref a) = true ∧ Binds K fd ps []

end Z
namespace Z
open PySem PySem.Spec PyProof.Rows L2
mutual
def ndD:D → Bool
 | .list xs=>ndL xs
 | .tuple xs=>ndL xs
 | .dict _=>false
 | _=>true
def ndL:List D → Bool
 | []=>true
 | x :: r=>ndD x && ndL r
end
def ndV:List (D × D) → Bool
 | []=>true
 | x :: r=>ndD x.2 && ndV r
def rmH (F:Hp) (q:Addr):Hp:=fun a=>if a = q then none else F a
theorem Q7m {F:Hp} {q a:Addr} (h:a ≠ q):rmH F q a = F a:=if_neg h
section
variable {K:PySem.W.Frag} {G:Hp} {q:Addr} {oq:Obj} {kq:List (Key × V)}
theorem Qds (hq:G q = some (.frz oq (.dK kq))) {a:Addr} {xs:List V} (h:SqT K G a xs):SqT K (rmH G q) a xs:=by
 rcases h with h | h
 ·rcases h with h | ⟨o,h⟩
  ·exact .inl (.inl (by rw [Q7m]; exact h; intro z; subst z; rw [hq] at h; cases h))
  ·exact .inl (.inr ⟨o,by rw [Q7m]; exact h; intro z; subst z; rw [hq] at h; cases h⟩)
 ·exact .inr h
mutual
theorem Rp.rm (hq:G q = some (.frz oq (.dK kq))):∀ {v:V} {d:D},Rp K G v d → ndD d = true → Rp K (rmH G q) v d
 | _,_,.non,_=>.non
 | _,_,.bl b,_=>.bl b
 | _,_,.int i,_=>.int i
 | _,_,.str x,_=>.str x
 | _,_,.lst h r,n=>.lst (by rw [Q7m]; exact h; intro z; subst z; rw [hq] at h; cases h) (Rps.rm hq r (by unfold ndD at n; exact n))
 | _,_,.tup h r,n=>.tup (Qds hq h) (Rps.rm hq r (by unfold ndD at n; exact n))
 | _,_,.dic h r,n=>by unfold ndD at n; cases n
theorem Rps.rm (hq:G q = some (.frz oq (.dK kq))):∀ {vs:List V} {ds:List D},Rps K G vs ds → ndL ds = true → Rps K (rmH G q) vs ds
 | _,_,.nil,_=>.nil
 | _,_,.cons h r,n=>.cons (Rp.rm hq h (by unfold ndL at n; rw [Q6] at n; exact n.1)) (Rps.rm hq r (by unfold ndL at n; rw [Q6] at n; exact n.2))
theorem RpK.rm (hq:G q = some (.frz oq (.dK kq))):∀ {vs:List (Key × V)} {ds:List (D × D)},RpK K G vs ds → ndV ds = true → RpK K (rmH G q) vs ds
 | _,_,.nil,_=>.nil
 | _,_,.cons h r,n=>.cons (Rp.rm hq h (by unfold ndV at n; rw [Q6] at n; exact n.1)) (RpK.rm hq r (by unfold ndV at n; rw [Q6] at n; exact n.2))
end
end

end Z
namespace Z
open PySem PySem.Spec PyProof.Rows L2

section
variable {X:Cx} {io:Iom} {fr:Fr} {x:Str} {i:Nat} {ea eb v:Expr} {fa fb fv:List Sl → Option (D × List Sl)} {M:List Nat} {p1 p2 tpos pos:Pos}
structure PcS (X:Cx) (o i:Expr) (v:Expr) (tpos:Pos) (line:Nat):Prop where
 sw:swapsWithSole [.Subscript o i tpos] v line X.env = pure false
 st:swappedStores [.Subscript o i tpos] v X.env = pure none
 ea:(assignEach [.Subscript o i tpos] X.env).map (·.2) = [assign (.Subscript o i tpos) X.env]
 as:∀ u,assign (.Subscript o i tpos) X.env u = (do
   let ov ← holding [u] (eval o X.env)
   let iv ← holding [u,ov] (eval i X.env)
   standAt tpos
   holding [u,ov,iv] (setItem ov iv u)
   release [iv,u,ov] [])
end
end Z
namespace Z
open PySem PySem.Spec PyProof.Rows L2

end Z
namespace Z
open PySem PySem.Spec PyProof.Rows L2 He
def Yo (K:PySem.W.Frag) (x d:String) (st:Stmt):Prop:=∃ (f:Addr) (fd:FuncData),PySem.W.nsIn K mainGlobals x = some (some (.ref f)) ∧ Fun K d d st f fd
theorem QcG {K:PySem.W.Frag} {x d:String} {st:Stmt} {f:Addr} {od an:Option Addr} {sl:Array (Option Value)} {oc kV dc pm cd ct:Value} (a:PySem.W.nsIn K mainGlobals x = some (some (.ref f))) (l:K.lookup f = some ⟨oc,od,.func (PySem.W.fnOf d d (defArgs st) (defBody st) (defScope st) .none kV dc pm an cd ct),sl⟩) (c:PySem.W.codeIn K cd d = true) (k:PySem.W.keepIn K (.ref f) = true):Yo K x d st:=⟨f,_,a,fun_mk l c k⟩
theorem Xx {K:PySem.W.Frag} {x d:String} {st:Stmt} {h:Heap} {mg:Str → Option Value} {p:Prop} (F:Yo K x d st) (X:K.In h) (G:h.Ns mainGlobals mg) (q:∀ {f:Addr} {fd:FuncData},Fun K d d st f fd → mg x = some (.ref f) → p):p:=let ⟨_,_,a,u⟩:=F; q u (PySem.W.mg_of X G a)
def Q4r (K:PySem.W.Frag) (u:Value) (d:D):Prop:=(kRp K 40 u).map (·.2) = some d
inductive Qdp (P:Program) (w:World) (K:PySem.W.Frag) (mg:Str → Option Value) (base:Heap) (p:Addr) (kk n m:Nat):List (Str × (List Sl → Option (Rs × List Sl))) → Prop
 | nil:Qdp P w K mg base p kk n m []
 | cons {z x:Str} {a:Addr} {φ:List Sl → Option (Rs × List Sl)} {k:Nat} {r:List (Str × (List Sl → Option (Rs × List Sl)))} (g:GX P w K mg base x k n m (fun _=>false) (.f .n) φ) (hk:k ≤ kk) (hm:mg x = some (.ref a)) (hz:PySem.W.nsIn K p z = some (some (.ref a))) (t:Qdp P w K mg base p kk n m r):Qdp P w K mg base p kk n m ((z,φ) :: r)
end Z
namespace Z
open PySem PySem.Spec PyProof.Rows L2

end Z
namespace Z
open PySem PySem.Spec PyProof.Rows L2 He
section
variable {fa:List Fa} {fn:List DefD} {ts:List He.Tab} {ex:PySem.W.Frag → Bool} {cs:List (Str × D)} {w:World} {K:PySem.W.Frag}
theorem QaP {x qn:Str} {st:Stmt} {f:Addr} {fd:FuncData} (F:FunD K x qn (defArgs st) (defBody st) (defScope st) [] [] f fd):∃ (oc:Value) (od an:Option Addr) (kV dc pm cd ct:Value) (sl:Array (Option Value)),K.lookup f = some ⟨oc,od,.func (PySem.W.fnOf x qn (defArgs st) (defBody st) (defScope st) .none kV dc pm an cd ct),sl⟩ ∧ PySem.W.codeIn K cd qn = true ∧ PySem.W.keepIn K (.ref f) = true:=by
 obtain ⟨⟨oc,od,dV,kV,dc,pm,an,cd,ct,sl,e,l,c,d,_⟩,kp⟩:=F
 rcases d with ⟨_,d⟩ | ⟨d,_⟩
 ·subst d; subst e
  exact ⟨oc,od,an,kV,dc,pm,cd,ct,sl,l,c,kp⟩
 ·exact absurd rfl d
theorem Q0F.gl (c:Q0F fa fn ts ex cs w K) (i:Nat) {x:Str} (h:fa[i]? = some (.glo x):=by rfl):PySem.W.nsIn K mainGlobals x = some (some (.ref (ga K x))):=eqO_ok (c.t.d.fact i h)
theorem Q0F.fr (c:Q0F fa fn ts ex cs w K) (i:Nat) {x:Str} (h:fa[i]? = some (.free x):=by rfl):PySem.W.nsIn K mainGlobals x = some none:=eqO_ok (c.t.d.fact i h)
theorem Q0F.fd (c:Q0F fa fn ts ex cs w K) (i j:Nat) {x d:String} {st:Stmt} (h:fa[i]? = some (.glo x):=by rfl) (h2:fn[j]? = some (dt x d st):=by rfl):Yo K x d st:=by
 obtain ⟨fd,F⟩:=c.t.d.def_ j h2
 obtain ⟨oc,od,an,kV,dc,pm,cd,ct,sl,l,k,kp⟩:=QaP F
 exact QcG (c.gl i h) l k kp
theorem Q0F.law (c:Q0F fa fn ts ex cs w K) (j:Nat) {x d:String} {st:Stmt} (h2:fn[j]? = some (dt x d st):=by rfl):∃ (oc:Value) (od an:Option Addr) (kV dc pm cd ct:Value) (sl:Array (Option Value)),K.lookup (ga K x) = some ⟨oc,od,.func (PySem.W.fnOf d d (defArgs st) (defBody st) (defScope st) .none kV dc pm an cd ct),sl⟩ ∧ PySem.W.codeIn K cd d = true ∧ PySem.W.keepIn K (.ref (ga K x)) = true:=by
 obtain ⟨fd,F⟩:=c.t.d.def_ j h2
 exact QaP F
theorem Q0F.con (c:Q0F fa fn ts ex cs w K) (i:Nat) {x:Str} {d:D} (h:cs[i]? = some (x,d):=by rfl):∃ u,PySem.W.nsIn K mainGlobals x = some (some u) ∧ Q4r K u d:=by
 have e:=c.cs
 have e2:(cs.map fun c=>QaF K c.1)[i]? = (cs.map fun c=>some c.2)[i]?:=by rw [e]
 rw [Qo,Qo,h] at e2
 have e3:QaF K x = some d:=J4.inj e2
 unfold QaF at e3
 split at e3
 ·rename_i u q
  exact ⟨u,q,e3⟩
 ·cases e3
end
theorem zwalkE {l:PySem.W.OpenLaw} {n k:Nat} {q:Program} {loose:List Str} {XP:(Str → Option Value) → Heap → Prop} {YP:World → Heap → Prop} {d:DefRec} {φ:List Sl → Option (D × List Sl)} {x:Str}
  (hn:l.most = some n) (hn2:n ≤ sizeLine) (hdf:d.params.defaults = []) (hr:Room k callerA)
  (Fn:∀ (w:World) (mg:Str → Option Value) (fa:Addr) (h:Heap),YP w h → h.Ns mainGlobals mg → mg d.name = some (.ref fa) → ∃ K:PySem.W.Frag,K.In h ∧
   ∃ fd:FuncData,(∀ (s:Shared) (u:Value),BindsTo s fd ⟨[u],[]⟩ [(x,u)]) ∧ ∀ base:Heap,K.In base → base.Ns mainGlobals mg → FnG l.prog w K mg base CX0 k fa fd [x] (spF K 1 .n φ))
  (hφ:∀ ns:List Int,ns.length ≤ n → ∃ outs,φ [.scr ns] = some (.bool true,outs)) :
  PySem.W.WalkO q loose XP YP l.row.toRowW d [] (fun f vs=>PySem.call f vs):=by
 refine Att.attach_call hn hdf fun w s0 s1 mg mb fa o pm cd doc a vs ns G Y ho hd hcd hmg hobj hints hlen hg=>?_
 obtain ⟨K,KX,fd,hb,hF⟩:=Fn w mg fa _ Y G.T.g hmg
 exact QdL KX G.T.g G.T.b G.T.builtins G.T.nolimit hg hobj hints (Qr hlen hn2) hr hF hb (hφ ns hlen)
end Z
namespace Z
open PySem PySem.Spec PyProof.Rows L2




end Z
namespace Z
open PySem PySem.Spec PyProof.Rows L2


def Qeb (ds es:List (D × D)):List (D × D):=es.foldl (fun a p=>match Vg p.1 with | some k=>Q90 a k p.2 | none=>a) ds
theorem RpK.upd {K:PySem.W.Frag} {G:Hp}:∀ {more:List (Key × V)} {es:List (D × D)} {kvs:List (Key × V)} {ds:List (D × D)},RpK K G more es → RpK K G kvs ds → RpK K G (mergeK kvs more) (Qeb ds es)
 | _,_,_,_,.nil,h=>h
 | _,_,kvs,ds,.cons (k:=k) h r',h0=>by
  show RpK K G (mergeK (putK kvs k _) _) _
  unfold Qeb
  rw [List.foldl_cons]
  simp only [Zn]
  exact RpK.upd r' (h0.put k h)
end Z
namespace Z
open PySem PySem.Spec PyProof.Rows L2
theorem ObR.false {H:Hp} {v:Option V} {σ:L2.St} {fs:List (Str × Nat)} {io:Nat → Bool} (h:ObR (fun _=>false) H v σ fs):ObR io H v σ fs:=⟨fun q hq=>(by cases h.1 q hq),h.2⟩
end Z
namespace Z
open PySem PySem.Spec PyProof.Rows L2
end Z
namespace Z
open PySem PySem.Spec PyProof.Rows L2 He

end Z
namespace Z
open PySem PySem.Spec PyProof.Rows L2


end Z
namespace Z
open PySem PySem.Spec PyProof.Rows L2
def ev7 {α:Type} (xs:List α) (a b:Nat):List α:=(List.range ((b - a + 6) / 7)).filterMap fun m=>xs[a + 7 * m]?
def hiN:Option Int → Option Nat
 | some (.ofNat n)=>some n
 | _=>none

section
variable {X:Cx}
def r7 (K:PySem.W.Frag):V → Option Int → Option Int → Hp → VK → Prop:=fun x lo hi H Q =>
 ∃ a xs k j,x = .ref a ∧ SqT K H a xs ∧ loN lo = some k ∧ hiN hi = some j ∧ ∀ p,H p = none → Q (.ref p) (upd H p (.tup (ev7 xs (min k xs.length) (min j xs.length))))
end
end Z
namespace Z
open PySem PySem.Spec PyProof.Rows L2

end Z
namespace Z
open PySem PySem.Spec PyProof.Rows L2



end Z
namespace Z
open PySem PySem.Spec PyProof.Rows L2



end Z
namespace Z
open PySem PySem.Spec PyProof.Rows L2






end Z
namespace Z
open PySem PySem.Spec PyProof.Rows L2


end Z
namespace Z
open PySem PySem.Spec PyProof.Rows L2
end Z
namespace Z
open PySem PySem.Spec PyProof.Rows L2
structure Zap (z TI TO i1 i2:Addr):Prop where
 a:TI ≠ z
 b:TO ≠ z
 c:TI ≠ TO
 d:TI ≠ i1
 e:TI ≠ i2
 f:z ≠ i1
 g:z ≠ i2
 h:TO ≠ i1
 i:TO ≠ i2
 j:i1 ≠ i2

end Z
namespace Z
open PySem PySem.Spec PyProof.Rows L2 He




end Z
namespace Z
open PySem PySem.Spec PyProof.Rows L2 He






end Z
namespace Z
open PySem PySem.Spec PyProof.Rows L2
end Z
namespace Z
open PySem PySem.Spec PyProof.Rows L2
end Z
namespace Z
open PySem PySem.Spec PyProof.Rows L2
theorem Q63 {K:PySem.W.Frag} {G:Hp}:∀ ys:List Str,Rps K G (ys.map V.str) (ys.map Q2)
 | []=>.nil
 | _ :: r=>.cons (.str _) (Q63 r)
def QbS:D → Option Str
 | .str a=>some a
 | _=>none
theorem Q8A {K:PySem.W.Frag} {G:Hp}:∀ {xs:List V} {ds:List D} {ys:List Str},Rps K G xs ds → ds.mapM QbS = some ys → xs = ys.map V.str
 | _,_,ys,.nil,h=>by
  simp only [List.mapM_nil] at h
  cases h
  rfl
 | _,_,ys,.cons (d:=d) r rs,h=>by
  rw [List.mapM_cons] at h
  cases r with
  | str x =>
   obtain ⟨y,hy,h2⟩:=Option.bind_eq_some_iff.mp h
   obtain ⟨zs,hz,h3⟩:=Option.bind_eq_some_iff.mp h2
   cases hy
   cases h3
   rw [Q8A rs hz]
   rfl
  | _=>cases h
def Qa6:D → D → Option D
 | .str a,.str b=>if (b.length == 0) = false ∧ a.length + 2 ≤ sizeLine then some (.list ((Txt.split a b).map Q2)) else none
 | _,_=>none
def Q0H:D → D → Option D
 | .str a,.list ds=>(ds.mapM QbS).bind fun ys=>if (ys.map (·.length)).sum + ys.length * a.length ≤ 16777216 then some (.str (Txt.join a ys)) else none
 | _,_=>none
section
variable {X:Cx} {o e:Expr} {fo fe:List Sl → Option (D × List Sl)} {R M R2 M2:List Nat} {apos pos:Pos}
theorem Q6P (ho:EV X o fo R M) (he:EV X e fe R2 M2) (hs:starEach [e] X.env = [(false,eval e X.env)]:=by rfl) (h1:attributeBase o "split" X.env (eval o X.env) = eval o X.env:=by rfl) (h2:(apos.endLine == pos.line) = true:=by rfl) :
  NV X (.Call (.Attribute o "split" apos) [e] [] pos) (f2 Qa6 fo fe) (M ++ M2):=by
 obtain ⟨t,p,q⟩:=ho
 obtain ⟨tl,pl,ql⟩:=he
 refine ⟨_,pe_split p pl hs h1 h2,fun Y F H δ σ A S z δ' e0 Q k=>?_⟩
 obtain ⟨d,δ1,l,e1,e2,e4⟩:=Q5N e0
 refine q Y F H δ σ A S d δ1 e1 _ fun x F1 H1 st1 S1 r1=>?_
 unfold Qa6 at e4
 split at e4
 ·split at e4
  ·cases e4
   rename_i hc
   have r1':=r1.str
   subst r1'
   refine ⟨⟨_,rfl⟩,?_⟩
   refine ql Y F1 H1 δ1 σ A S1 _ _ e2 _ fun y F2 H2 st2 S2 r2=>?_
   have r2':=r2.str
   subst r2'
   have st:=st1.trans S1 st2
   exact ⟨_,_,rfl,rfl,hc.1,hc.2,fun p hp=>k p F2 _ (Y3 S2 st (Stp.laidO hp)) (S2.laidO hp) (Q4z st S2 hp) (S2.sub.free hp) ⟨_,upd_same,Q63 _⟩⟩
  ·cases e4
 ·cases e4
theorem Q3x (ho:EV X o fo R M) (he:EV X e fe R2 M2) (hs:starEach [e] X.env = [(false,eval e X.env)]:=by rfl) (h1:attributeBase o "join" X.env (eval o X.env) = eval o X.env:=by rfl) (h2:(apos.endLine == pos.line) = true:=by rfl) :
  EV X (.Call (.Attribute o "join" apos) [e] [] pos) (f2 Q0H fo fe) [] (M ++ M2):=by
 obtain ⟨t,p,q⟩:=ho
 obtain ⟨tl,pl,ql⟩:=he
 refine ⟨_,pe_join p pl hs h1 h2,fun Y F H δ σ A S z δ' e0 Q k=>?_⟩
 obtain ⟨d,δ1,l,e1,e2,e4⟩:=Q5N e0
 refine q Y F H δ σ A S d δ1 e1 _ fun x F1 H1 st1 S1 r1=>?_
 unfold Q0H at e4
 split at e4
 ·obtain ⟨ys,e5,e6⟩:=Option.bind_eq_some_iff.mp e4
  split at e6
  ·cases e6
   rename_i hc
   have r1':=r1.str
   subst r1'
   refine ⟨⟨_,rfl⟩,?_⟩
   refine ql Y F1 H1 δ1 σ A S1 _ _ e2 _ fun y F2 H2 st2 S2 r2=>?_
   obtain ⟨p,xs,rfl,h3,r⟩:=r2.list S2
   have ex:=Q8A r e5
   subst ex
   exact ⟨_,p,ys,rfl,rfl,.inl (SqL.of h3),hc,k _ F2 H2 (st1.trans S1 st2) S2 (.inl (.str _))⟩
  ·cases e6
 ·cases e4
end
def Q80:D → Option D
 | .str a=>if a.length ≤ 640 then (PySem.intText? a).map Q0 else none
 | _=>none
def Qcc:List V → Hp → VK → Prop:=fun xs H Q=>∃ a n,xs = [.str a] ∧ PySem.intText? a = some n ∧ a.length ≤ 640 ∧ Q (.int n) H
section
variable {X:Cx}
theorem QbD:CallR X (.type "int") Qcc:=call_int_str
theorem Qc0:Q1y X Qcc (g1 Q80):=by
 intro Y F H δ σ A R xs ds z S r hg Q k
 obtain ⟨d,rfl,hg'⟩:=Wh hg
 obtain ⟨v,rfl,rv⟩:=r.one
 unfold Q80 at hg'
 split at hg'
 ·split at hg'
  ·rename_i hl
   obtain ⟨n,hn,rfl⟩:=Option.map_eq_some_iff.mp hg'
   have r1:=rv.str
   subst r1
   exact ⟨_,n,rfl,hn,hl,k _ F H Stp.refl S (.int n)⟩
  ·cases hg'
 ·cases hg'
end
end Z
namespace Z
open PySem PySem.Spec PyProof.Rows L2
def Q3l:List Sl → Option Out:=fun _=>none
theorem Q1n {X:Cx} {io:Iom} {fr:Fr} {st:Stmt}:SV X io fr st Q3l:=⟨fun _ _ _=>False,⟨fun _ _ _ _ _ _ h=>h.elim⟩,fun _ _ _ _ _ _ _ _ _ e=>nomatch e⟩
end Z
namespace Z
open PySem PySem.Spec PyProof.Rows L2



end Z
namespace Z
open PySem PySem.Spec PyProof.Rows L2

end Z
namespace Z
open PySem PySem.Spec PyProof.Rows L2


end Z
namespace Z
open PySem PySem.Spec PyProof.Rows L2





end Z
namespace Z
open PySem PySem.Spec PyProof.Rows L2

end Z
namespace Z
open PySem PySem.Spec PyProof.Rows L2

end Z
namespace Z
open PySem PySem.Spec PyProof.Rows L2

end Z
namespace Z
open PySem PySem.Spec PyProof.Rows L2
end Z
namespace Z
open PySem PySem.Spec PyProof.Rows L2

end Z
namespace Z
open PySem PySem.Spec PyProof.Rows L2

end Z
namespace Z
open PySem PySem.Spec PyProof.Rows L2
end Z
namespace Z
open PySem PySem.Spec PyProof.Rows L2

end Z
namespace Z
open PySem PySem.Spec PyProof.Rows L2
end Z
namespace Z
open PySem PySem.Spec PyProof.Rows L2
end Z
namespace Z
open PySem PySem.Spec PyProof.Rows L2
end Z
namespace Z
open PySem PySem.Spec PyProof.Rows L2

end Z
namespace Z
open PySem PySem.Spec PyProof.Rows L2
end Z
namespace Z
open PySem PySem.Spec PyProof.Rows L2

end Z
namespace Z
open PySem PySem.Spec PyProof.Rows L2

end Z
namespace Z
open PySem PySem.Spec PyProof.Rows L2
end Z
namespace Z
open PySem PySem.Spec PyProof.Rows L2
end Z
namespace Z
open PySem PySem.Spec PyProof.Rows L2

end Z
namespace Z
open PySem PySem.Spec PyProof.Rows L2



end Z
namespace Z
open PySem PySem.Spec PyProof.Rows L2
end Z
namespace Z
open PySem PySem.Spec PyProof.Rows L2
end Z
namespace Z
open PySem PySem.Spec PyProof.Rows L2
def Q4l (a:Str) (ys:List Str):Option Str:=if (ys.map (·.length)).sum + ys.length * a.length ≤ 16777216 then some (Txt.join a ys) else none
theorem Q55:∀ ys:List Str,(ys.map Q2).mapM QbS = some ys
 | []=>rfl
 | y :: r=>by
  rw [Qm,List.mapM_cons,Q55 r]
  rfl
theorem Q5z (a:Str) (ys:List Str) (v:Str) (h:Q4l a ys = some v):Q0H (.str a) (eLi Q2 ys) = some (.str v):=by
 show (((ys.map Q2).mapM QbS).bind _) = _
 rw [Q55,Q1]
 unfold Q4l at h
 split at h
 ·rename_i c
  cases h
  exact if_pos c
 ·cases h
def Q3N (a b:Str):Option (List Str):=if (b.length == 0) = false ∧ a.length + 2 ≤ sizeLine then some (Txt.split a b) else none
theorem Qao (a b:Str) (v:List Str) (h:Q3N a b = some v):Qa6 (.str a) (.str b) = some (eLi Q2 v):=by
 unfold Q3N at h
 split at h
 ·rename_i c
  cases h
  exact if_pos c
 ·cases h
def Q3e (a:Str):Option Int:=if a.length ≤ 640 then PySem.intText? a else none
theorem Qbh (a:Str) (v:Int) (h:Q3e a = some v):g1 Q80 [.str a] = some (.int v):=by
 unfold Q3e at h
 split at h
 ·rename_i c
  show (if a.length ≤ 640 then (PySem.intText? a).map Q0 else none) = _
  rw [if_pos c,h]
  rfl
 ·cases h
theorem Q1k {β:Type} {as:List Sl → Option (List Sl)} {δ:List Sl} {g':Fg} {r:β → Oc}:SB as (Ju Q3l g') δ none r:=fun _ h=>nomatch h
theorem QdQ (o:Option D) (v:Str) (h:o.bind asS = some v):o = some (.str v):=by
 obtain ⟨d,h1,h2⟩:=Xs h
 rw [h1]
 unfold asS at h2
 split at h2
 ·cases h2
  rfl
 ·cases h2
def QbA {α:Type} (xs:List α):Option (α × α):=match xs with
 | [a,b]=>some (a,b)
 | _=>none
theorem QaL {α' τ' ε':Type} {T:Tt} {f:Fe} {δ:List Sl} {g':List Sl → Option Out} {oe:Option α'} {re:α' → D × List Sl} {ee:τ' → D} {xs:α' → List τ'} {δx:α' → τ' × τ' → List Sl} {ok:α' → τ' × τ' → Option ε'} {as} {r} (h:VN f δ oe re) (hr:∀ x,(re x).1 = eLi ee (xs x)) (hb:∀ x t,Y2 T [ee t.1,ee t.2] (re x).2 = some (δx x t)) (k:∀ x t,SB as g' (δx x t) (ok x t) r):SB as (Ju (Q5c T f) g') δ (oe.bind fun x=>(QbA (xs x)).bind fun t=>ok x t) r:=fun v hv=>by
 obtain ⟨x,hx,hv⟩:=Xs hv
 obtain ⟨t,ht,hv⟩:=Xs hv
 rw [Yv (δ1:=δx x t)]
 ·exact k x t v hv
 ·unfold Q5c
  have e1:=hr x
  have hb':=hb x t
  rw [h x hx,Q1]
  generalize re x = w at e1 hb'
  obtain ⟨d,δ1⟩:=w
  dsimp only at e1 hb' ⊢
  subst e1
  unfold QbA at ht
  split at ht
  ·rename_i a b e2
   cases ht
   rw [e2]
   show (Y2 T [ee a,ee b] δ1).map Out.nx = _
   rw [hb']
   rfl
  ·cases ht
end Z
namespace Z
open PySem PySem.Spec PyProof.Rows L2
def Wt {α:Type} (o:Option α) (P:α → Prop):Prop:=∃ a,o = some a ∧ P a
variable {α β γ σ ι τ ρ:Type}
theorem Wt.mon {o:Option α} {P Q:α → Prop} (h:Wt o P) (q:∀ a,P a → Q a):Wt o Q:=by
 obtain ⟨a,e,p⟩:=h
 exact ⟨a,e,q a p⟩
theorem Xc {a:α} {P:α → Prop} (h:P a):Wt (some a) P:=⟨a,rfl,h⟩
theorem Jv {o:Option α} {k:α → Option β} {P:β → Prop} (h:Wt o fun a=>Wt (k a) P):Wt (o.bind k) P:=by
 obtain ⟨a,rfl,b,e,p⟩:=h
 exact ⟨b,e,p⟩
theorem Xp {o:Option α} {k:α → β} {P:β → Prop} (h:Wt o fun a=>P (k a)):Wt (o.map k) P:=by
 obtain ⟨a,rfl,p⟩:=h
 exact ⟨_,rfl,p⟩
theorem Xm {v:α} {k:α → Option β} {P:β → Prop} (h:Wt (k v) P):Wt (Q2u v k) P:=h
theorem Zm {c:Bool} {a b:Option α} {P:α → Prop} (h1:c = true → Wt a P) (h2:c = false → Wt b P):Wt (if c then a else b) P:=by
 cases c
 ·exact h2 rfl
 ·exact h1 rfl
theorem Xd {k:Dk} {M:Int} {P:Int × Dk → Prop} (hc:k.cs.length ≤ 63) (hM:0 < M) (hM2:M < 2 ^ 30) (h:∀ r k',0 ≤ r → r < M → k'.cs.length ≤ 63 → P (r,k')):Wt (V9 k M) P:=by
 obtain ⟨r,k',e,h1,h2,h3⟩:=QaZ k M hM hM2 hc
 exact ⟨_,e,h r k' h1 h2 h3⟩
theorem Q6R (xs:List α) (i:Int) (h0:0 ≤ i) (h1:i < xs.length):∃ h:i.toNat < xs.length,atI xs i = some (xs[i.toNat]'h):=by
 refine ⟨by omega,?_⟩
 unfold atI ixN
 rw [if_pos h0,if_pos h1]
 exact Ql _
theorem Q6n {xs:List α} {i:Int} {P:α → Prop} (h0:0 ≤ i) (h1:i < xs.length) (h:∀ x ∈ xs,P x):Wt (atI xs i) P:=by
 obtain ⟨c,e⟩:=Q6R xs i h0 h1
 exact ⟨_,e,h _ (List.getElem_mem _)⟩
theorem Q0Q {xs:List α} {i:Int} {v:α} {P:List α → Prop} (h0:0 ≤ i) (h1:i < xs.length) (h:P (xs.set i.toNat v)):Wt (Q0J xs i v) P:=by
 unfold Q0J ixN
 rw [if_pos h0,if_pos h1]
 exact ⟨_,rfl,h⟩
theorem Kj:1000000 ≤ sizeLine:=Qa0
theorem QcE {xs:List α} {x:α} {P:List α → Prop} (h0:xs.length < 1000000) (h:P (xs ++ [x])):Wt (Q5P xs x) P:=⟨_,if_pos (Qd h0 Kj),h⟩
theorem Qd1 {xs ys:List α} {P:List α → Prop} (h0:xs.length + ys.length ≤ 1000000) (h:P (xs ++ ys)):Wt (QbQ xs ys) P:=⟨_,if_pos (Qr h0 Kj),h⟩
theorem Qan {xs ys:List α} {P:List α → Prop} (h0:xs.length + ys.length ≤ 1000000) (h:P (xs ++ ys)):Wt (Q1v xs ys) P:=⟨_,if_pos (Qr h0 Kj),h⟩
theorem Q2L {xs:List ι} {o:Option τ} {P:τ → Prop} (h0:xs.length ≤ 1000000) (h:Wt o P):Wt (Wm xs o) P:=by
 unfold Wm
 rw [if_pos (Qr h0 Kj)]
 exact h
theorem Q2C {j:Int} {P:List Int → Prop} (h0:-1000000 ≤ j) (h1:j ≤ 1000000) (h:P (Q1w 0 j.toNat)):Wt (Q4H j) P:=⟨_,if_pos (Q7E h0 h1),h⟩
theorem Q9Z {i j:Int} {P:List Int → Prop} (h0:0 ≤ i) (h1:i ≤ 1000000) (h2:0 ≤ j) (h3:j ≤ 1000000) (h:P (Q1w i (j - i).toNat)):Wt (rgQ i j) P:=⟨_,if_pos (by unfold rgB; rw [decide_eq_true h0,decide_eq_true h2,decide_eq_true (show i ≤ 16777216 by omega),decide_eq_true (show j ≤ 16777216 by omega)]; rfl),h⟩
theorem Qa7 {a b:Int} {P:Int → Prop} (h:Wq a = true ∨ Wq b = true) (p:P (a * b)):Wt (Q04 a b) P:=⟨_,if_pos (by rcases h with h | h <;> simp [h]),p⟩
theorem Q6C {xs:List α} {n:Int} {P:α × List α → Prop} (h0:0 ≤ n) (h1:n < xs.length) (hl:xs.length ≤ 1000000) (h:∀ hh:n.toNat < xs.length,P (xs[n.toNat]'hh,xs.eraseIdx n.toNat)):Wt (Q2Y xs n) P:=by
 unfold Q2Y
 rw [if_pos ⟨h0,Qr hl Kj⟩,Ql (by omega)]
 exact ⟨_,rfl,h _⟩
theorem QcV {x:α} {k:Int} {P:List α → Prop} (h0:0 ≤ k) (h1:k ≤ 1000000) (h:P (Q8 k.toNat x)):Wt (Q92 [x] k) P:=by
 have big:=Kj
 unfold Q92
 rw [decide_eq_true h0,decide_eq_true (show k < 2 ^ 62 by omega),decide_eq_true (show ([x]:List α).length * k.toNat ≤ sizeLine by simp; omega)]
 refine ⟨_,rfl,?_⟩
 have:(Q8 k.toNat [x]).flatten = Q8 k.toNat x:=by
  induction k.toNat with
  | zero=>rfl
  | succ n ih=>rw [Ji,Ji,List.flatten_cons,ih]; rfl
 rw [this]
 exact h
theorem Q0S {step:ι → σ → Option σ} (I:List ι → σ → Prop) {P:σ → Prop}:∀ {xs:List ι} {s:σ},I xs s → (∀ x xs s,I (x :: xs) s → Wt (step x s) (I xs)) → (∀ s,I [] s → P s) → Wt (Q1a step xs s) P
 | [],s,h,_,q=>⟨s,rfl,q s h⟩
 | x :: xs,s,h,st,q=>by
  unfold Q1a
  refine Jv ((st x xs s h).mon fun s' h'=>Q0S I h' st q)
theorem Q7S {step:ι → σ → Option σ} (I:σ → Prop) {P:σ → Prop} {xs:List ι} {s:σ} (h:I s) (st:∀ x ∈ xs,∀ s,I s → Wt (step x s) I) (q:∀ s,I s → P s):Wt (Q1a step xs s) P :=
 Q0S (fun ys s=>(∀ y ∈ ys,y ∈ xs) ∧ I s) ⟨fun _ h=>h,h⟩ (fun x ys s h=>(st x (h.1 x (Q5 ..)) s h.2).mon fun s' h'=>⟨fun y hy=>h.1 y (Q4 _ hy),h'⟩) fun s h=>q s h.2
theorem Q8C {step:ι → σ → Option (σ ⊕ ρ)} (I:σ → Prop) {P:σ ⊕ ρ → Prop}:∀ {xs:List ι} {s:σ},I s → (∀ x ∈ xs,∀ s,I s → Wt (step x s) fun w=>∃ s',w = .inl s' ∧ I s') → (∀ s,I s → P (.inl s)) → Wt (Q7o step xs s) P
 | [],s,h,_,q=>⟨_,rfl,q s h⟩
 | x :: xs,s,h,st,q=>by
  unfold Q7o
  refine Jv ((st x (Q5 ..) s h).mon fun w hw=>?_)
  obtain ⟨s',rfl,h'⟩:=hw
  exact Q8C I h' (fun y hy=>st y (Q4 _ hy)) q
theorem Q6K {c:σ → Option Bool} {step:σ → Option σ} (I:Nat → σ → Prop) {P:σ → Prop}:∀ {n:Nat} {s:σ},I n s → (∀ n s,I n s → Wt (c s) fun b=>if b = true then ∃ m,n = m + 1 ∧ Wt (step s) (I m) else 0 < n ∧ P s) → Wt (Q1Q c step n s) P
 | 0,s,h,st=>by
  obtain ⟨b,_,q⟩:=st 0 s h
  cases b
  ·exact absurd q.1 (by omega)
  ·obtain ⟨m,hm,_⟩:=q
   omega
 | n + 1,s,h,st=>by
  unfold Q1Q
  refine Jv ((st _ s h).mon fun b hb=>?_)
  cases b
  ·exact Xc hb.2
  ·obtain ⟨m,hm,w⟩:=hb
   cases hm
   exact Jv (w.mon fun s' h'=>Q6K I h' st)
theorem QbF {f:ι → Option τ} {P:List τ → Prop} {xs:List ι} (g:ι → τ) (hf:∀ x ∈ xs,f x = some (g x)) (h:P (xs.map g)):Wt (mapM f xs) P:=by
 have:∀ ys:List ι,(∀ x ∈ ys,f x = some (g x)) → mapM f ys = some (ys.map g):=by
  intro ys
  induction ys with
  | nil=>intro _; rfl
  | cons y ys ih =>
   intro hy
   unfold mapM
   rw [hy y (Q5 ..),Q1,ih fun x hx=>hy x (Q4 _ hx)]
   rfl
 exact ⟨_,this xs hf,h⟩
theorem Q5B {c:ι → Option Bool} {f:ι → Option τ} (b:ι → Bool) (g:ι → τ):∀ xs:List ι,(∀ x ∈ xs,c x = some (b x)) → (∀ x ∈ xs,b x = true → f x = some (g x)) → Q2K c f xs = some ((xs.filter b).map g)
 | [],_,_=>rfl
 | x :: xs,hc,hf=>by
  unfold Q2K
  rw [hc x (Q5 ..),Q1,Q5B b g xs (fun y hy=>hc y (Q4 _ hy)) (fun y hy=>hf y (Q4 _ hy)),List.filter_cons]
  cases e:b x
  ·rfl
  ·show (f x).bind _ = _
   rw [hf x (Q5 ..) e]
   rfl
theorem QbY {c:ι → Option Bool} {f:ι → Option τ} {P:List τ → Prop} {xs:List ι} (b:ι → Bool) (g:ι → τ) (hc:∀ x ∈ xs,c x = some (b x)) (hf:∀ x ∈ xs,b x = true → f x = some (g x)) (h:P ((xs.filter b).map g)):Wt (Q2K c f xs) P:=⟨_,Q5B b g xs hc hf,h⟩
theorem Q29 {f:ι → σ → Option (τ × σ)} {P:List τ × σ → Prop} (Q:τ → Prop) (I:List ι → σ → Prop):∀ {xs:List ι} {s:σ},I xs s → (∀ x xs s,I (x :: xs) s → Wt (f x s) fun p=>Q p.1 ∧ I xs p.2) → (∀ ys s,ys.length = xs.length → (∀ y ∈ ys,Q y) → I [] s → P (ys,s)) → Wt (Q4s f xs s) P
 | [],s,h,_,q=>⟨_,rfl,q [] s rfl (fun _ h=>nomatch h) h⟩
 | x :: xs,s,h,st,q=>by
  unfold Q4s
  refine Jv ((st x xs s h).mon fun p hp=>Xp (Q29 Q I hp.2 st fun ys s' e a i=>?_))
  refine q _ _ (by simp [e]) (fun y hy=>?_) i
  rcases Q7.mp hy with rfl | hy
  ·exact hp.1
  ·exact a y hy
theorem Ka [DecidableEq α] {xs:List (α × β)} {k:α} {v:β} (h:Ve xs k = some v):(k,v) ∈ xs:=by
 unfold Ve at h
 cases e:xs.find? (fun p=>decide (p.1 = k)) with
 | none=>rw [e] at h; cases h
 | some p =>
  rw [e] at h
  cases h
  have h1:=List.find?_some e
  have h2:=List.mem_of_find?_eq_some e
  have:p.1 = k:=of_decide_eq_true h1
  rw [← this]
  exact h2
theorem Q4h [DecidableEq α] {xs:List (α × β)} {k:α} (h:k ∈ xs.map (·.1)):∃ v,Ve xs k = some v:=by
 unfold Ve
 cases e:xs.find? (fun p=>decide (p.1 = k)) with
 | none =>
  obtain ⟨p,hp,rfl⟩:=Qp.mp h
  have:=List.find?_eq_none.mp e p hp
  simp at this
 | some p=>exact ⟨_,rfl⟩
theorem Qa9 [DecidableEq α] {xs:List (α × β)} {k:α} {P:β → Prop} (h:k ∈ xs.map (·.1)) (p:∀ v,Ve xs k = some v → (k,v) ∈ xs → P v):Wt (Ve xs k) P:=by
 obtain ⟨v,e⟩:=Q4h h
 exact ⟨v,e,p v e (Ka e)⟩
theorem Q59 [DecidableEq α] (xs:List (α × β)) (k:α) (v:β) (h:k ∈ xs.map (·.1)):(W5 xs k v).map (·.1) = xs.map (·.1):=by
 unfold W5
 have:xs.any (fun p=>decide (p.1 = k)) = true:=by
  rw [List.any_eq_true]
  obtain ⟨p,hp,e⟩:=Qp.mp h
  exact ⟨p,hp,decide_eq_true e⟩
 rw [if_pos this,Qz]
 apply List.map_congr_left
 intro p _
 simp only [Function.comp]
 split
 ·rename_i e; simp [e]
 ·rfl
theorem Q6j [DecidableEq α] (xs:List (α × β)) (k:α) (v:β) (h:k ∉ xs.map (·.1)):W5 xs k v = xs ++ [(k,v)]:=by
 unfold W5
 rw [if_neg]
 intro c
 rw [List.any_eq_true] at c
 obtain ⟨p,hp,e⟩:=c
 exact h (Qp.mpr ⟨p,hp,of_decide_eq_true e⟩)
theorem Q0V [DecidableEq α] {xs:List (α × β)} {k:α} {v:β} {p:α × β} (h:p ∈ W5 xs k v):p = (k,v) ∨ p ∈ xs:=by
 unfold W5 at h
 split at h
 ·obtain ⟨q,hq,e⟩:=Qp.mp h
  split at e
  ·rename_i c; left; rw [← e,c]
  ·right; rw [← e]; exact hq
 ·rcases Q9.mp h with h | h
  ·exact .inr h
  ·exact .inl (Qj.mp h)
theorem Q3V [DecidableEq α] (xs:List (α × β)) (k:α) (v:β) {j:α} (h:j = k ∨ j ∈ xs.map (·.1)):j ∈ (W5 xs k v).map (·.1):=by
 by_cases c:k ∈ xs.map (·.1)
 ·rw [Q59 _ _ _ c]
  rcases h with rfl | h
  ·exact c
  ·exact h
 ·rw [Q6j _ _ _ c,Jg]
  rcases h with rfl | h
  ·exact Q9.mpr (.inr (Qj.mpr rfl))
  ·exact Q9.mpr (.inl h)
theorem Q3S [DecidableEq α] (xs:List (α × β)) (k:α) (v:β):(W5 xs k v).length ≤ xs.length + 1:=by
 unfold W5
 split
 ·rw [Q3]; omega
 ·simp
theorem Q5p [DecidableEq α] {xs:List (α × β)} {k:α} {v:β} {P:List (α × β) → Prop} (h0:xs.length < 1000000) (h:P (W5 xs k v)):Wt (Q2z xs k v) P:=⟨_,if_pos (Qd h0 Kj),h⟩
theorem Q9P {xs:List (Int × β)} {P:List Int → Prop} (h0:xs.length < 64) (h:∀ ks,ks.Perm (xs.map (·.1)) → P ks):Wt (Q64 xs) P:=⟨_,if_pos h0,h _ (List.mergeSort_perm _ _)⟩
theorem Q6m {lo:Int} {n:Nat} {x:Int} (h:x ∈ Q1w lo n):lo ≤ x ∧ x < lo + n:=by
 unfold Q1w at h
 obtain ⟨i,hi,rfl⟩:=Qp.mp h
 rw [List.mem_range] at hi
 omega
theorem Yf (lo:Int) (n:Nat):(Q1w lo n).length = n:=by simp [Q1w]
theorem Q7d (lo:Int) (n:Nat):(Q1w lo n).Nodup:=by
 unfold Q1w
 rw [List.nodup_iff_pairwise_ne,List.pairwise_map]
 exact List.Pairwise.imp (fun {a b} h=>by omega) (List.nodup_iff_pairwise_ne.mp List.nodup_range)
theorem Q83 {xs:List α} {a b:Nat}:Xi xs (some (a:Int)) (some (b:Int)) = (xs.drop (min a xs.length)).take (min b xs.length - min a xs.length):=by
 unfold Xi
 rw [HT.sIx_nat,HT.sIx_nat]
theorem Q1O {xs:List α} {b:Int} (h:0 ≤ b):Xi xs none (some b) = xs.take b.toNat:=by
 obtain ⟨n,rfl⟩:=J5 h
 unfold Xi
 rw [HT.sIx_nat,HT.sIx_none,List.drop_zero]
 simp [List.take_eq_take_iff]
theorem Q2J {xs:List α} {a:Int} (h:0 ≤ a):Xi xs (some a) none = xs.drop a.toNat:=by
 obtain ⟨n,rfl⟩:=J5 h
 unfold Xi
 rw [HT.sIx_nat,HT.sIx_none]
 by_cases c:n ≤ xs.length
 ·rw [Nat.min_eq_left c]
  simp [J6]
 ·rw [Nat.min_eq_right (by omega)]
  simp
  omega
theorem Q1m {xs:List α} {a b:Int} (h:0 ≤ a) (h1:a ≤ xs.length) (h2:a ≤ b):Xi xs (some a) (some b) = (xs.drop a.toNat).take (b - a).toNat:=by
 obtain ⟨n,rfl⟩:=J5 h
 obtain ⟨m,rfl⟩:=J5 (show 0 ≤ b by omega)
 have hn:n ≤ xs.length:=by omega
 have hm:n ≤ m:=by omega
 have e1:((n:Int)).toNat = n:=by omega
 have e2:((m:Int) - (n:Int)).toNat = m - n:=by omega
 rw [Q83,e1,e2,Nat.min_eq_left hn]
 by_cases c:m ≤ xs.length
 ·rw [Nat.min_eq_left c]
 ·rw [Nat.min_eq_right (by omega)]
  rw [J6 (by simp),J6 (by simp; omega)]
theorem Q8b {xs:List α} {lo hi:Option Int} {x:α} (h:x ∈ Xi xs lo hi):x ∈ xs:=List.mem_of_mem_drop (List.mem_of_mem_take h)
theorem Q6c {xs:List τ} {p:Int × τ} (h:p ∈ Q3j xs):0 ≤ p.1 ∧ p.1 < xs.length ∧ p.2 ∈ xs:=by
 unfold Q3j at h
 obtain ⟨q,hq,rfl⟩:=Qp.mp h
 obtain ⟨a,b⟩:=q
 have:=List.mem_zipIdx hq
 refine ⟨Int.natCast_nonneg _,by simp at this ⊢; omega,?_⟩
 simp at this ⊢
 rw [this.2]
 exact List.getElem_mem _
structure Sh (w k:Nat) (d:D):Prop where
 s:d.showable = true
 n:d.hasDict = false
 l:d.leavesShort 13 = true
 dp:d.depth ≤ k
 wt:d.weight ≤ w
end Z
namespace Z
open PySem PySem.Spec PyProof.Rows L2
structure ShB (w k:Nat) (d:D):Prop where
 s:d.showable = true
 n:d.hasDict = false
 l:d.leavesShort 600 = true
 dp:d.depth ≤ k
 wt:d.weight ≤ w
end Z
namespace Z
open PySem
abbrev Jx:=(eLi Q0)
abbrev Xq:=(eDi Q0 (eP2 Q0 (eLi eD)))
abbrev Yk:=(eP3 Q0 Q0 (eTu Q0))
abbrev Vz:=(eDi Q0 (eLi Q0))
end Z
namespace K04
open PySem PySem.Spec PyProof.Rows L2 Z
def top (i:Nat):Stmt:=PySem.Challenge.pw_soundstore_k04_written_and_read.main.body.getD i (.Pass ⟨0,0,0,0⟩)
structure Txt (K:PySem.W.Frag) (mg:Str → Option Value):Prop where
 c_BLOCK_CELLS:GC K mg "BLOCK_CELLS" (.int 4)
 c_FIGURES:GC K mg "FIGURES" (.str "0123456789")
 c_HEAD_CELLS:GC K mg "HEAD_CELLS" (.int 7)
 c_LEAST_BLOCKS:GC K mg "LEAST_BLOCKS" (.int 3)
 c_LEAST_HEADS:GC K mg "LEAST_HEADS" (.int 2)
 c_LOG_CELLS:GC K mg "LOG_CELLS" (.int 82)
 c_MOST_BLOCKS:GC K mg "MOST_BLOCKS" (.int 12)
 c_MOST_FIGURES:GC K mg "MOST_FIGURES" (.int 40)
 c_MOST_HEADS:GC K mg "MOST_HEADS" (.int 8)
 m_all:mg "all" = none
 m_bool:mg "bool" = none
 m_enumerate:mg "enumerate" = none
 m_int:mg "int" = none
 m_isinstance:mg "isinstance" = none
 m_len:mg "len" = none
 m_list:mg "list" = none
 m_range:mg "range" = none
 m_repr:mg "repr" = none
 m_reversed:mg "reversed" = none
 m_sorted:mg "sorted" = none
 m_str:mg "str" = none
 m_sum:mg "sum" = none
 m_tuple:mg "tuple" = none
 m_zip:mg "zip" = none
section
variable {P:Program} {w:World} {K:PySem.W.Frag} {mg:Str → Option Value} {base:Heap}
abbrev Q0P:Stmt:=top 12
theorem Q2j:FnScope ["thing"] ["thing"] (defScope Q0P):=⟨rfl,rfl,rfl,by decide +kernel,rfl,by decide +kernel,by decide +kernel⟩
def Q6T:List Sl → Option Out:=Ju (Yl (Q2Q (f1 (Q65 "int") (Jr 0)) (Q9U (f1 (Q65 "bool") (Jr 0))))) (Xt)
def V5:List Sl → Option (D × List Sl):=fnF [false] 1 .n Q6T
theorem Q5S (T:Txt K mg)  {f:Addr} {fd:FuncData} (Fu:Fun K "is_number" "is_number" Q0P f fd) (m:mg "is_number" = some (.ref f)):GK P w K mg base "is_number" 1 1 .n V5:=by
 refine ⟨f,fd,["thing"],V0 Fu Q2j rfl (fun cd A out s G E hG hr=>?_),rfl,m,Fu.kp,Fu.binds fun _ _ _ _ _ _ us hl=>match us,hl with | [_],_=>rfl⟩
 have S:=Q2j; have h1:=hu1 hr; have h65:=Wp hr; have h66:=Ws hr; have h67:=Ww hr
 exact Jm (Xy (Q3B (Q25 (T := "int") rfl (bnk T.m_isinstance) (bnk T.m_int) (Jt 0)) (Q3v (QcK (Q25 (T := "bool") rfl (bnk T.m_isinstance) (bnk T.m_bool) (Jt 0)))))) (X5)
abbrev Q1P:Stmt:=top 13
theorem Q36:FnScope ["heads", "blocks"] ["heads", "blocks"] (defScope Q1P):=⟨rfl,rfl,rfl,by decide +kernel,rfl,by decide +kernel,by decide +kernel⟩
def Q7e:List Sl → Option Out:=Ju (sIf (gOr (Q0t (fun δ=>toB (Xb [] true V5 (X1 (Jr 0) (Y0)) δ))) (Q0t (fun δ=>toB (Xb [] true V5 (X1 (Jr 1) (Y0)) δ)))) (Ju (Yl (Jq (.bool false))) (Xt)) (Xt)) (Ju (Yl (Q2Q (Ze (bD leD) (bD leD) (Jq (.int 2)) (Jr 0) (Jq (.int 8))) (Ze (bD leD) (bD leD) (Jq (.int 3)) (Jr 1) (Jq (.int 12))))) (Xt))
def We:List Sl → Option (D × List Sl):=fnF [false,false] 2 .n Q7e
theorem Q6d (T:Txt K mg) (k_is_number:GK P w K mg base "is_number" 1 1 .n V5) {f:Addr} {fd:FuncData} (Fu:Fun K "is_shape" "is_shape" Q1P f fd) (m:mg "is_shape" = some (.ref f)):GK P w K mg base "is_shape" 2 2 .n We:=by
 refine ⟨f,fd,["heads", "blocks"],V0 Fu Q36 rfl (fun cd A out s G E hG hr=>?_),rfl,m,Fu.kp,Fu.binds fun _ _ _ _ _ _ us hl=>match us,hl with | [_,_],_=>rfl⟩
 have S:=Q36; have h1:=hu1 hr; have h65:=Wp hr; have h66:=Ws hr; have h67:=Ww hr
 exact Jm (Vy (WV.tv (Q3n (Wu (Wy (Xl (k_is_number.kn hr hG) (Jw (Jt 0) (X6))))) (Q30 (Wu (Wy (Xl (k_is_number.kn hr hG) (Jw (Jt 1) (X6)))))))) (Jm (Xy (Q3h)) (X5)) (X5)) (Jm (Xy (Q3B (Q6a Q3E.op Xr Q3E.op Xr (Q3I T.c_LEAST_HEADS) (Jt 0) (Q3I T.c_MOST_HEADS)) (Q3v (Q6a Q3E.op Xr Q3E.op Xr (Q3I T.c_LEAST_BLOCKS) (Jt 1) (Q3I T.c_MOST_BLOCKS))))) (X5))
abbrev Q0B:Stmt:=top 14
theorem Q1A:FnScope ["heads", "blocks"] ["heads", "blocks"] (defScope Q0B):=⟨rfl,rfl,rfl,by decide +kernel,rfl,by decide +kernel,by decide +kernel⟩
def Q5n:List Sl → Option Out:=Ju (Yl (f2 Y8 (f2 Y8 (f2 Y6 (Jq (.int 7)) (Jr 0)) (f2 Y6 (f2 Y8 (Jq (.int 1)) (Jq (.int 4))) (Jr 1))) (Jq (.int 82)))) (Xt)
def Va:List Sl → Option (D × List Sl):=fnF [false,false] 2 .n Q5n
theorem Q4y (T:Txt K mg)  {f:Addr} {fd:FuncData} (Fu:Fun K "many_cells" "many_cells" Q0B f fd) (m:mg "many_cells" = some (.ref f)):GK P w K mg base "many_cells" 1 2 .n Va:=by
 refine ⟨f,fd,["heads", "blocks"],V0 Fu Q1A rfl (fun cd A out s G E hG hr=>?_),rfl,m,Fu.kp,Fu.binds fun _ _ _ _ _ _ us hl=>match us,hl with | [_,_],_=>rfl⟩
 have S:=Q1A; have h1:=hu1 hr; have h65:=Wp hr; have h66:=Ws hr; have h67:=Ww hr
 exact Jm (Xy (Jy X9 Xa (Jy X9 Xa (Jy Xh Xg (Q3I T.c_HEAD_CELLS) (Jt 0)) (Jy Xh Xg (Jy X9 Xa (Jl) (Q3I T.c_BLOCK_CELLS)) (Jt 1))) (Q3I T.c_LOG_CELLS))) (X5)
abbrev Q0v:Stmt:=top 15
theorem Q37:FnScope ["thing", "cells", "cell"] ["thing"] (defScope Q0v):=⟨rfl,rfl,rfl,by decide +kernel,rfl,by decide +kernel,by decide +kernel⟩
def Q7n:List Sl → Option Out:=Ju (sIf (gOr (Q0t (fun δ=>toB ((f1 (Q65 "tuple") (Jr 0)) δ))) (gOr (fun δ=>toB (f2 (bD neD) (fA (g1 Zq) (Js (Jr 0) (Xf))) (Jq (.int 3)) δ)) (Q0t (fun δ=>toB (Xb [] true We (X1 (f2 Ye (Jr 0) (Jq (.int 0))) (X1 (f2 Ye (Jr 0) (Jq (.int 1))) (Y0))) δ))))) (Ju (Yl (Jq (.bool false))) (Xt)) (Xt)) (Ju (Ys 1 (f2 Ye (Jr 0) (Jq (.int 2)))) (Ju (sIf (gOr (Q0t (fun δ=>toB ((f1 (Q65 "tuple") (Jr 1)) δ))) (fun δ=>toB (f2 (bD neD) (fA (g1 Zq) (Js (Jr 1) (Xf))) (Xb [] true Va (X1 (f2 Ye (Jr 0) (Jq (.int 0))) (X1 (f2 Ye (Jr 0) (Jq (.int 1))) (Y0)))) δ))) (Ju (Yl (Jq (.bool false))) (Xt)) (Xt)) (Ju (Yl (fA (g1 Q9V) (Js (fLc (.nm 2) [2] (fIt (Jr 1)) (Q0h) (Xb [] true V5 (X1 (Jr 2) (Y0)))) (Xf)))) (Xt))))
def Zy:List Sl → Option (D × List Sl):=fnF [false] 3 .n Q7n
theorem Q6B (T:Txt K mg) (k_is_number:GK P w K mg base "is_number" 1 1 .n V5) (k_is_shape:GK P w K mg base "is_shape" 2 2 .n We) (k_many_cells:GK P w K mg base "many_cells" 1 2 .n Va) {f:Addr} {fd:FuncData} (Fu:Fun K "is_store" "is_store" Q0v f fd) (m:mg "is_store" = some (.ref f)):GK P w K mg base "is_store" 3 1 .n Zy:=by
 refine ⟨f,fd,["thing"],V0 Fu Q37 rfl (fun cd A out s G E hG hr=>?_),rfl,m,Fu.kp,Fu.binds fun _ _ _ _ _ _ us hl=>match us,hl with | [_],_=>rfl⟩
 have S:=Q37; have h1:=hu1 hr; have h65:=Wp hr; have h66:=Ws hr; have h67:=Ww hr
 exact Jm (Vy (WV.tv (Q3n (Wu (Wy (Q25 (T := "tuple") rfl (bnk T.m_isinstance) (bnk T.m_tuple) (Jt 0)))) (Q3n (Yg (Q1b h65).op Xr (Y1 (bnk T.m_len) Wf Wg (Jn (Jt 0) (Jz))) (Jl)) (Q30 (Wu (Wy (Xl (k_is_shape.kn hr hG) (Jw (Xw h1 (Jt 0) (Jl)) (Jw (Xw h1 (Jt 0) (Jl)) (X6)))))))))) (Jm (Xy (Q3h)) (X5)) (X5)) (Jm (Y4 rfl (tgk 1 S.nd) (Xw h1 (Jt 0) (Jl))) (Jm (Vy (WV.tv (Q3n (Wu (Wy (Q25 (T := "tuple") rfl (bnk T.m_isinstance) (bnk T.m_tuple) (Jt 1)))) (Q30 (Yg (Q1b h65).op Xr (Y1 (bnk T.m_len) Wf Wg (Jn (Jt 1) (Jz))) (Xl (k_many_cells.kn hr hG) (Jw (Xw h1 (Jt 0) (Jl)) (Jw (Xw h1 (Jt 0) (Jl)) (X6)))))))) (Jm (Xy (Q3h)) (X5)) (X5)) (Jm (Xy (Y1 (bnk T.m_all) (cr_all rfl) Q9y (Jn (NV.ev (Q16 (own:=[("cell",2)]) rfl S.nd (Vj (Jt 1)) (Wa (N:=["thing", "cells", "cell"]) (sc:=defScope Q0v) (by decide +kernel)) (fun _ _ _ _ _=>X8 (tgk 2 S.nd)) (fun _ _ _ _ _=>Vo) (fun _ _ _ _ _=>Xl (k_is_number.kn hr hG) (Jw (Jt 2) (X6))))) (Jz)))) (X5))))
abbrev Q0K:Stmt:=top 17
theorem Q2M:FnScope ["heads"] ["heads"] (defScope Q0K):=⟨rfl,rfl,rfl,by decide +kernel,rfl,by decide +kernel,by decide +kernel⟩
def Q6s:List Sl → Option Out:=Ju (Yl (f2 Y6 (Jq (.int 7)) (Jr 0))) (Xt)
def Vn:List Sl → Option (D × List Sl):=fnF [false] 1 .n Q6s
theorem Q5F (T:Txt K mg)  {f:Addr} {fd:FuncData} (Fu:Fun K "map_first" "map_first" Q0K f fd) (m:mg "map_first" = some (.ref f)):GK P w K mg base "map_first" 1 1 .n Vn:=by
 refine ⟨f,fd,["heads"],V0 Fu Q2M rfl (fun cd A out s G E hG hr=>?_),rfl,m,Fu.kp,Fu.binds fun _ _ _ _ _ _ us hl=>match us,hl with | [_],_=>rfl⟩
 have S:=Q2M; have h1:=hu1 hr; have h65:=Wp hr; have h66:=Ws hr; have h67:=Ww hr
 exact Jm (Xy (Jy Xh Xg (Q3I T.c_HEAD_CELLS) (Jt 0))) (X5)
abbrev Q05:Stmt:=top 18
theorem Q15:FnScope ["heads", "blocks"] ["heads", "blocks"] (defScope Q05):=⟨rfl,rfl,rfl,by decide +kernel,rfl,by decide +kernel,by decide +kernel⟩
def Q4u:List Sl → Option Out:=Ju (Yl (f2 Y8 (Xb [] true Vn (X1 (Jr 0) (Y0))) (Jr 1))) (Xt)
def Yz:List Sl → Option (D × List Sl):=fnF [false,false] 2 .n Q4u
theorem Q4k (T:Txt K mg) (k_map_first:GK P w K mg base "map_first" 1 1 .n Vn) {f:Addr} {fd:FuncData} (Fu:Fun K "block_first" "block_first" Q05 f fd) (m:mg "block_first" = some (.ref f)):GK P w K mg base "block_first" 2 2 .n Yz:=by
 refine ⟨f,fd,["heads", "blocks"],V0 Fu Q15 rfl (fun cd A out s G E hG hr=>?_),rfl,m,Fu.kp,Fu.binds fun _ _ _ _ _ _ us hl=>match us,hl with | [_,_],_=>rfl⟩
 have S:=Q15; have h1:=hu1 hr; have h65:=Wp hr; have h66:=Ws hr; have h67:=Ww hr
 exact Jm (Xy (Jy X9 Xa (Xl (k_map_first.kn hr hG) (Jw (Jt 0) (X6))) (Jt 1))) (X5)
abbrev Q11:Stmt:=top 19
theorem Q2m:FnScope ["heads", "blocks"] ["heads", "blocks"] (defScope Q11):=⟨rfl,rfl,rfl,by decide +kernel,rfl,by decide +kernel,by decide +kernel⟩
def Q73:List Sl → Option Out:=Ju (Yl (f2 Y8 (Xb [] true Yz (X1 (Jr 0) (X1 (Jr 1) (Y0)))) (f2 Y6 (Jq (.int 4)) (Jr 1)))) (Xt)
def Kl:List Sl → Option (D × List Sl):=fnF [false,false] 2 .n Q73
theorem Q5o (T:Txt K mg) (k_block_first:GK P w K mg base "block_first" 2 2 .n Yz) {f:Addr} {fd:FuncData} (Fu:Fun K "log_first" "log_first" Q11 f fd) (m:mg "log_first" = some (.ref f)):GK P w K mg base "log_first" 3 2 .n Kl:=by
 refine ⟨f,fd,["heads", "blocks"],V0 Fu Q2m rfl (fun cd A out s G E hG hr=>?_),rfl,m,Fu.kp,Fu.binds fun _ _ _ _ _ _ us hl=>match us,hl with | [_,_],_=>rfl⟩
 have S:=Q2m; have h1:=hu1 hr; have h65:=Wp hr; have h66:=Ws hr; have h67:=Ww hr
 exact Jm (Xy (Jy X9 Xa (Xl (k_block_first.kn hr hG) (Jw (Jt 0) (Jw (Jt 1) (X6)))) (Jy Xh Xg (Q3I T.c_BLOCK_CELLS) (Jt 1)))) (X5)
abbrev Q1U:Stmt:=top 23
theorem Q3b:FnScope ["heads", "blocks", "ends"] ["heads", "blocks"] (defScope Q1U):=⟨rfl,rfl,rfl,by decide +kernel,rfl,by decide +kernel,by decide +kernel⟩
def Q7u:List Sl → Option Out:=Ju (Ys 2 (W8 (Js (Jq (.int 0)) (Js (Xb [] true Vn (X1 (Jr 0) (Y0))) (Js (Xb [] true Yz (X1 (Jr 0) (X1 (Jr 1) (Y0)))) (Js (Xb [] true Kl (X1 (Jr 0) (X1 (Jr 1) (Y0)))) (Js (Xb [] true Va (X1 (Jr 0) (X1 (Jr 1) (Y0)))) (Xf)))))))) (Ju (Yl (fA Q82 (Js (f3 Q0I (Jr 2) (Q0O) (Vh (f1 Qdq (Jq (.int 1))))) (Js (f3 Q0I (Jr 2) (Vh (Jq (.int 1))) (Q0O)) (Xf))))) (Xt))
def Wc:List Sl → Option (D × List Sl):=fnF [false,false] 3 .l Q7u
theorem Q6p (T:Txt K mg) (k_block_first:GK P w K mg base "block_first" 2 2 .n Yz) (k_log_first:GK P w K mg base "log_first" 3 2 .n Kl) (k_many_cells:GK P w K mg base "many_cells" 1 2 .n Va) (k_map_first:GK P w K mg base "map_first" 1 1 .n Vn) {f:Addr} {fd:FuncData} (Fu:Fun K "lines_of" "lines_of" Q1U f fd) (m:mg "lines_of" = some (.ref f)):GK P w K mg base "lines_of" 4 2 .l Wc:=by
 refine ⟨f,fd,["heads", "blocks"],V0 Fu Q3b rfl (fun cd A out s G E hG hr=>?_),rfl,m,Fu.kp,Fu.binds fun _ _ _ _ _ _ us hl=>match us,hl with | [_,_],_=>rfl⟩
 have S:=Q3b; have h1:=hu1 hr; have h65:=Wp hr; have h66:=Ws hr; have h67:=Ww hr
 exact Jm (Y4 rfl (tgk 2 S.nd) (NV.ev (Yc (Jn (Jl) (Jn (Xl (k_map_first.kn hr hG) (Jw (Jt 0) (X6))) (Jn (Xl (k_block_first.kn hr hG) (Jw (Jt 0) (Jw (Jt 1) (X6)))) (Jn (Xl (k_log_first.kn hr hG) (Jw (Jt 0) (Jw (Jt 1) (X6)))) (Jn (Xl (k_many_cells.kn hr hG) (Jw (Jt 0) (Jw (Jt 1) (X6)))) (Jz))))))))) (Jm (Qb7 (Q8R rfl (by exact ⟨rfl,T.m_list⟩) (by exact ⟨rfl,T.m_zip⟩) (Jn (V2 (Jt 2) (Ko) (Yu (Qd6 (Jl)))) (Jn (V2 (Jt 2) (Yu (Jl)) (Ko)) (Jz))))) (X5))
abbrev Q0r:Stmt:=top 24
theorem Q3i:FnScope ["numbers", "number"] ["numbers"] (defScope Q0r):=⟨rfl,rfl,rfl,by decide +kernel,rfl,by decide +kernel,by decide +kernel⟩
def Q7N:List Sl → Option Out:=Ju (Yl (f2 Q0H (Jq (.str " ")) (fLc (.nm 1) [1] (fIt (Jr 0)) (Q0h) (fA (g1 Q3s) (Js (Jr 1) (Xf)))))) (Xt)
def Kc:List Sl → Option (D × List Sl):=fnF [false] 2 .n Q7N
theorem Q6w (T:Txt K mg)  {f:Addr} {fd:FuncData} (Fu:Fun K "row_text" "row_text" Q0r f fd) (m:mg "row_text" = some (.ref f)):GK P w K mg base "row_text" 1 1 .n Kc:=by
 refine ⟨f,fd,["numbers"],V0 Fu Q3i rfl (fun cd A out s G E hG hr=>?_),rfl,m,Fu.kp,Fu.binds fun _ _ _ _ _ _ us hl=>match us,hl with | [_],_=>rfl⟩
 have S:=Q3i; have h1:=hu1 hr; have h65:=Wp hr; have h66:=Ws hr; have h67:=Ww hr
 exact Jm (Xy (Q3x (Q0D) (NV.ev (Q16 (own:=[("number",1)]) rfl S.nd (Vj (Jt 0)) (Wa (N:=["numbers", "number"]) (sc:=defScope Q0r) (by decide +kernel)) (fun _ _ _ _ _=>X8 (tgk 1 S.nd)) (fun _ _ _ _ _=>Vo) (fun _ _ _ _ _=>Vv (bnk T.m_str) QaM QaK (Jn (Jt 1) (Jz))))))) (X5)
abbrev Q0n:Stmt:=top 25
theorem Q1M:FnScope ["store", "heads", "blocks", "cells", "rows", "first", "behind"] ["store"] (defScope Q0n):=⟨rfl,rfl,rfl,by decide +kernel,rfl,by decide +kernel,by decide +kernel⟩
def Q5w:List Sl → Option Out:=Ju (Q3r (.cons (.nm 1) (.cons (.nm 2) (.cons (.nm 3) (.nil)))) (Jr 0)) (Ju (Zk 4 (W8 (Js (Xb [] true Kc (X1 (W8 (Js (Jr 1) (Js (Jr 2) (Xf)))) (Y0))) (Xf)))) (Ju (Q2R [5,6] (Zs (.cons (.nm 5) (.cons (.nm 6) (.nil))) (fIt (Xb [] true Wc (X1 (Jr 1) (X1 (Jr 2) (Y0))))) (Ju (Q3q (Q71 4 (Xb [] true Kc (X1 (f3 Q0I (Jr 3) (Vh (Jr 5)) (Vh (Jr 6))) (Y0))))) (Kk [5,6])))) (Ju (Yl (f2 Q0H (Jq (.str "\n")) (fRd 4))) (Xt))))
def W0:List Sl → Option (D × List Sl):=fnF [false] 7 .n Q5w
theorem Q4C (T:Txt K mg) (k_lines_of:GK P w K mg base "lines_of" 4 2 .l Wc) (k_row_text:GK P w K mg base "row_text" 1 1 .n Kc) {f:Addr} {fd:FuncData} (Fu:Fun K "show_store" "show_store" Q0n f fd) (m:mg "show_store" = some (.ref f)):GK P w K mg base "show_store" 5 1 .n W0:=by
 refine ⟨f,fd,["store"],V0 Fu Q1M rfl (fun cd A out s G E hG hr=>?_),rfl,m,Fu.kp,Fu.binds fun _ _ _ _ _ _ us hl=>match us,hl with | [_],_=>rfl⟩
 have S:=Q1M; have h1:=hu1 hr; have h65:=Wp hr; have h66:=Ws hr; have h67:=Ww hr
 exact Jm (Q2Z (by decide) (Jt 0) (Q3D rfl (Xo (X8 (tgk 1 S.nd)) (Xo (X8 (tgk 2 S.nd)) (Xo (X8 (tgk 3 S.nd)) (W4)))))) (Jm (Q0b rfl (tgk 4 S.nd) (Yc (Jn (Xl (k_row_text.kn hr hG) (Jw (NV.ev (Yc (Jn (Jt 1) (Jn (Jt 2) (Jz))))) (X6))) (Jz)))) (Jm (Zd rfl (Q08 (passes_of rfl) rfl (Vj (NV.ev (Q8v (k_lines_of.kn hr hG) (Jw (Jt 1) (Jw (Jt 2) (X6)))))) (Q3D rfl (Xo (X8 (tgk 5 S.nd)) (Xo (X8 (tgk 6 S.nd)) (W4)))) (by decide) (Jm (Q3Z (Q9T (nmk 4) (Xl (k_row_text.kn hr hG) (Jw (V2 (Jt 3) (Yu (Jt 5)) (Yu (Jt 6))) (X6))) ⟨rfl,rfl,rfl,rfl,rfl⟩)) (Vs rfl)))) (Jm (Xy (Q3x (Q0D) (Yj 4))) (X5))))
abbrev Q01:Stmt:=top 26
theorem Q2s:FnScope ["word", "figures", "sign"] ["word"] (defScope Q01):=⟨rfl,rfl,rfl,by decide +kernel,rfl,by decide +kernel,by decide +kernel⟩
def Q66:List Sl → Option Out:=Ju (Ys 1 (Jr 0)) (Ju (sIf (fun δ=>toB (f2 (bD eqD) (f3 Q0I (Jr 0) (Q0O) (Vh (Jq (.int 1)))) (Jq (.str "-")) δ)) (Ju (Ys 1 (f3 Q0I (Jr 0) (Vh (Jq (.int 1))) (Q0O))) (Xt)) (Xt)) (Ju (sIf (gOr (Q0t (fun δ=>toB (Ze (bD leD) (bD leD) (Jq (.int 1)) (fA (g1 Zq) (Js (Jr 1) (Xf))) (Jq (.int 40)) δ))) (Q0t (fun δ=>toB ((fA (g1 Q9V) (Js (fLc (.nm 2) [2] (fIt (Jr 1)) (Q0h) (f2 (bD inD) (Jr 2) (Jq (.str "0123456789")))) (Xf))) δ)))) (Ju (Q3l) (Xt)) (Xt)) (Ju (sIf (Q5j (fun δ=>toB (f2 (bD eqD) (f2 Ye (Jr 1) (Jq (.int 0))) (Jq (.str "0")) δ)) (fun δ=>toB (f2 (bD neD) (Jr 0) (Jq (.str "0")) δ))) (Ju (Q3l) (Xt)) (Xt)) (Ju (Yl (fA (g1 Q80) (Js (Jr 0) (Xf)))) (Xt)))))
def Kz:List Sl → Option (D × List Sl):=fnF [false] 3 .n Q66
theorem Q5D (T:Txt K mg)  {f:Addr} {fd:FuncData} (Fu:Fun K "number_in" "number_in" Q01 f fd) (m:mg "number_in" = some (.ref f)):GK P w K mg base "number_in" 1 1 .n Kz:=by
 refine ⟨f,fd,["word"],V0 Fu Q2s rfl (fun cd A out s G E hG hr=>?_),rfl,m,Fu.kp,Fu.binds fun _ _ _ _ _ _ us hl=>match us,hl with | [_],_=>rfl⟩
 have S:=Q2s; have h1:=hu1 hr; have h65:=Wp hr; have h66:=Ws hr; have h67:=Ww hr
 exact Jm (Y4 rfl (tgk 1 S.nd) (Jt 0)) (Jm (Vy (Yg (Q0j h65).op Xr (V2 (Jt 0) (Ko) (Yu (Jl))) (Q0D)) (Jm (Y4 rfl (tgk 1 S.nd) (V2 (Jt 0) (Yu (Jl)) (Ko))) (X5)) (X5)) (Jm (Vy (WV.tv (Q3n (Wu (QaI Q3E.op Xr Q3E.op Xr (Jl) (Y1 (bnk T.m_len) Wf Wg (Jn (Jt 1) (Jz))) (Q3I T.c_MOST_FIGURES))) (Q30 (Wu (Wy (Y1 (bnk T.m_all) (cr_all rfl) Q9y (Jn (NV.ev (Q16 (own:=[("sign",2)]) rfl S.nd (Vj (Jt 1)) (Wa (N:=["word", "figures", "sign"]) (sc:=defScope Q01) (by decide +kernel)) (fun _ _ _ _ _=>X8 (tgk 2 S.nd)) (fun _ _ _ _ _=>Vo) (fun _ _ _ _ _=>Q0T (QdD h65).op Xr (Jt 2) (Q3I T.c_FIGURES)))) (Jz)))))))) (Jm (Q1n) (X5)) (X5)) (Jm (Vy (WV.tv (Q7h (Yg (Q0j h65).op Xr (Xw h1 (Jt 1) (Jl)) (Q0D)) (Q8e (Yg (Q1b h65).op Xr (Jt 0) (Q0D))))) (Jm (Q1n) (X5)) (X5)) (Jm (Xy (Vv (bnk T.m_int) QbD Qc0 (Jn (Jt 0) (Jz)))) (X5)))))
abbrev Vt:Stmt:=top 27
theorem Q1D:FnScope ["text", "rows", "line", "word", "heads", "blocks", "sizes", "first", "behind", "row", "found"] ["text"] (defScope Vt):=⟨rfl,rfl,rfl,by decide +kernel,rfl,by decide +kernel,by decide +kernel⟩
def Q5u:List Sl → Option Out:=Ju (sIf (Q0t (fun δ=>toB ((f1 (Q65 "str") (Jr 0)) δ))) (Ju (Q3l) (Xt)) (Xt)) (Ju (Zk 1 (fLc (.nm 2) [2] (fIt (f2 Qa6 (Jr 0) (Jq (.str "\n")))) (Q0h) (fLc (.nm 3) [3] (fIt (f2 Qa6 (Jr 2) (Jq (.str " ")))) (Q0h) (Xb [] true Kz (X1 (Jr 3) (Y0)))))) (Ju (sIf (gOr (fun δ=>toB (f2 (bD neD) (fA (g1 Zq) (Js (fRd 1) (Xf))) (Jq (.int 5)) δ)) (gOr (fun δ=>toB (f2 (bD neD) (fA (g1 Zq) (Js (f2 Ye (fRd 1) (Jq (.int 0))) (Xf))) (Jq (.int 2)) δ)) (Q0t (fun δ=>toB (Xb [] true We (X1 (f2 Ye (f2 Ye (fRd 1) (Jq (.int 0))) (Jq (.int 0))) (X1 (f2 Ye (f2 Ye (fRd 1) (Jq (.int 0))) (Jq (.int 1))) (Y0))) δ))))) (Ju (Q3l) (Xt)) (Xt)) (Ju (Q5c (.cons (.nm 4) (.cons (.nm 5) (.nil))) (f2 Ye (fRd 1) (Jq (.int 0)))) (Ju (Zk 6 (fLc (.cons (.nm 7) (.cons (.nm 8) (.nil))) [7,8] (fIt (Xb [] true Wc (X1 (Jr 4) (X1 (Jr 5) (Y0))))) (Q0h) (f2 Z0 (Jr 8) (Jr 7)))) (Ju (sIf (fun δ=>toB (f2 (bD neD) (fLc (.nm 9) [9] (fIt (f3 Q0I (fRd 1) (Vh (Jq (.int 1))) (Q0O))) (Q0h) (fA (g1 Zq) (Js (Jr 9) (Xf)))) (fRd 6) δ)) (Ju (Q3l) (Xt)) (Xt)) (Ju (Ys 10 (Ki (Js (Jr 4) (Js (Jr 5) (Js (fA (g1 Q7x) (Js (f2 Y8 (f2 Y8 (f2 Y8 (f2 Ye (fRd 1) (Jq (.int 1))) (f2 Ye (fRd 1) (Jq (.int 2)))) (f2 Ye (fRd 1) (Jq (.int 3)))) (f2 Ye (fRd 1) (Jq (.int 4)))) (Xf))) (Xf)))))) (Ju (sIf (Q0t (fun δ=>toB (Xb [] true Zy (X1 (Jr 10) (Y0)) δ))) (Ju (Q3l) (Xt)) (Xt)) (Ju (Yl (Jr 10)) (Xt)))))))))
def K1:List Sl → Option (D × List Sl):=fnF [false] 11 .n Q5u
theorem Q4w (T:Txt K mg) (k_is_shape:GK P w K mg base "is_shape" 2 2 .n We) (k_is_store:GK P w K mg base "is_store" 3 1 .n Zy) (k_lines_of:GK P w K mg base "lines_of" 4 2 .l Wc) (k_number_in:GK P w K mg base "number_in" 1 1 .n Kz) {f:Addr} {fd:FuncData} (Fu:Fun K "read_store" "read_store" Vt f fd) (m:mg "read_store" = some (.ref f)):GK P w K mg base "read_store" 5 1 .n K1:=by
 refine ⟨f,fd,["text"],V0 Fu Q1D rfl (fun cd A out s G E hG hr=>?_),rfl,m,Fu.kp,Fu.binds fun _ _ _ _ _ _ us hl=>match us,hl with | [_],_=>rfl⟩
 have S:=Q1D; have h1:=hu1 hr; have h65:=Wp hr; have h66:=Ws hr; have h67:=Ww hr
 exact Jm (Vy (Wu (Wy (Q25 (T := "str") rfl (bnk T.m_isinstance) (bnk T.m_str) (Jt 0)))) (Jm (Q1n) (X5)) (X5)) (Jm (Q89 (own:=[("line",2)]) rfl S.nd rfl rfl rfl (Vj (NV.ev (Q6P (Jt 0) (Q0D)))) (Wa (N:=["text", "rows", "line", "word", "heads", "blocks", "sizes", "first", "behind", "row", "found"]) (sc:=defScope Vt) (by decide +kernel)) (fun _ _ _ _ _=>X8 (tgk 2 S.nd)) (fun _ _ _ _ _=>Vo) (fun _ _ _ _ _=>NV.ev (Q16 (own:=[("word",3)]) rfl S.nd (Vj (NV.ev (Q6P (Jt 2) (Q0D)))) (Wa (N:=["text", "rows", "line", "word", "heads", "blocks", "sizes", "first", "behind", "row", "found"]) rfl) (fun _ _ _ _ _=>X8 (tgk 3 S.nd)) (fun _ _ _ _ _=>Vo) (fun _ _ _ _ _=>Xl (k_number_in.kn hr hG) (Jw (Jt 3) (X6))))) (by intro _; rfl) (by decide) (by decide) rfl) (Jm (Vy (WV.tv (Q3n (Yg (Q1b h65).op Xr (Y1 (bnk T.m_len) Wf Wg (Jn (Yj 1) (Jz))) (Jl)) (Q3n (Yg (Q1b h65).op Xr (Y1 (bnk T.m_len) Wf Wg (Jn (Xw h1 (Yj 1) (Jl)) (Jz))) (Jl)) (Q30 (Wu (Wy (Xl (k_is_shape.kn hr hG) (Jw (Xw h1 (Xw h1 (Yj 1) (Jl)) (Jl)) (Jw (Xw h1 (Xw h1 (Yj 1) (Jl)) (Jl)) (X6)))))))))) (Jm (Q1n) (X5)) (X5)) (Jm (Q9Y rfl (by decide) (Xw h1 (Yj 1) (Jl)) (Xo (X8 (tgk 4 S.nd)) (Xo (X8 (tgk 5 S.nd)) (W4)))) (Jm (Q89 (own:=[("first",7),("behind",8)]) rfl S.nd rfl rfl rfl (Vj (NV.ev (Q8v (k_lines_of.kn hr hG) (Jw (Jt 4) (Jw (Jt 5) (X6)))))) (Wa (N:=["text", "rows", "line", "word", "heads", "blocks", "sizes", "first", "behind", "row", "found"]) (sc:=defScope Vt) (by decide +kernel)) (fun _ _ _ _ _=>Q3D rfl (Xo (X8 (tgk 7 S.nd)) (Xo (X8 (tgk 8 S.nd)) (W4)))) (fun _ _ _ _ _=>Vo) (fun _ _ _ _ _=>Jy op_sub Yr (Jt 8) (Jt 7)) (by intro _; rfl) (by decide) (by decide) rfl) (Jm (Vy (Yg (Q1b h65).op Xr (NV.ev (Q16 (own:=[("row",9)]) rfl S.nd (Vj (V2 (Yj 1) (Yu (Jl)) (Ko))) (Wa (N:=["text", "rows", "line", "word", "heads", "blocks", "sizes", "first", "behind", "row", "found"]) (sc:=defScope Vt) (by decide +kernel)) (fun _ _ _ _ _=>X8 (tgk 9 S.nd)) (fun _ _ _ _ _=>Vo) (fun _ _ _ _ _=>Y1 (bnk T.m_len) Wf Wg (Jn (Jt 9) (Jz))))) (Yj 6)) (Jm (Q1n) (X5)) (X5)) (Jm (Y4 rfl (tgk 10 S.nd) (V8 (Jn (Jt 4) (Jn (Jt 5) (Jn (Vv (bnk T.m_tuple) Q2O Q2D (Jn (Jy X9 Xa (Jy X9 Xa (Jy X9 Xa (Xw h1 (Yj 1) (Jl)) (Xw h1 (Yj 1) (Jl))) (Xw h1 (Yj 1) (Jl))) (Xw h1 (Yj 1) (Jl))) (Jz))) (Jz)))))) (Jm (Vy (Wu (Wy (Xl (k_is_store.kn hr hG) (Jw (Jt 10) (X6))))) (Jm (Q1n) (X5)) (X5)) (Jm (Xy (Jt 10)) (X5)))))))))
abbrev Q0Z:Stmt:=top 29
theorem Q2a:FnScope ["_law_script", "_law_cells"] ["_law_script"] (defScope Q0Z):=⟨rfl,rfl,rfl,by decide +kernel,rfl,by decide +kernel,by decide +kernel⟩
theorem Q5V (T:Txt K mg) {f:Addr} {fd:FuncData} (Fu:Fun K "_law_deck" "_law_deck" Q0Z f fd) (m:mg "_law_deck" = some (.ref f)):GKD P w K mg base "_law_deck" 1:=by
 refine ⟨f,fd,["_law_script"],Qbn (f1:=f2 Y8 (f2 Kp (fA (g1 Q5R) (Js (fRd 1) (Xf))) (Jq (.int 2147483629))) (f2 Y6 (Jq (.int 48271)) (fA (g1 Zq) (Js (fRd 1) (Xf))))) Fu Q2a rfl (fun ns=>?_) (fun cd A out s G E hG hr=>?_),m,Fu.kp,Fu.binds fun _ _ _ _ _ _ us hl=>match us,hl with | [_],_=>rfl⟩
 ·exact QbW ns
 ·have S:=Q2a; have h1:=hu1 hr; have h65:=Wp hr
  exact ⟨Q0b rfl (tgk 1 S.nd) (Q9g rfl rfl T.m_list rfl T.m_reversed (nmk 0) rfl rfl),Qcw (nmk 1) (Q5O (Jy X9 Xa (Jy op_mod Q1W (Y1 (bnk T.m_sum) (Q5f rfl) Q7O (Jn (Yj 1) (Jz))) (Jl)) (Jy Xh Xg (Jl) (Y1 (bnk T.m_len) Wf Wg (Jn (Yj 1) (Jz))))) (Q5O Jl Q9w))⟩
abbrev Q0M:Stmt:=top 30
theorem Q2v:FnScope ["_law_deck_here", "_law_most", "_law_cell", "_law_number_here"] ["_law_deck_here", "_law_most"] (defScope Q0M):=⟨rfl,rfl,rfl,by decide +kernel,rfl,by decide +kernel,by decide +kernel⟩
def Q6z:List Sl → Option Out:=Ju (Q98 0 (f2 Y8 (Q3H 0) (Jq (.int 1)))) (Ju (Ys 2 (Q1N (Q9f 0) (Q9G 0) (Q40 0))) (Ju (sIf (fun δ=>toB (f2 (bD geD) (Jr 2) (f2 Kv (Jq (.int 10)) (Jq (.int 18))) δ)) (Ju (Q3q (Q2t 0 (f2 Q0E (Jr 2) (Jr 1)))) (Ju (Yl (f2 Kp (Jr 2) (Jr 1))) (Xt))) (Xt)) (Ju (Ys 3 (f2 Kp (f2 Y6 (f2 Y8 (f2 Y8 (f2 Kp (Jr 2) (Jq (.int 2147483629))) (f2 Y6 (Jq (.int 104729)) (Q3H 0))) (Jq (.int 1))) (Jq (.int 48271))) (Jq (.int 2147483647)))) (Ju (Ys 3 (f2 Kp (f2 Y8 (f2 Y8 (f2 Y6 (Jr 3) (Jr 3)) (f2 Y6 (Jq (.int 69621)) (Q3H 0))) (Jq (.int 7))) (Jq (.int 2147483587)))) (Ju (Yl (f2 Kp (f2 Q0E (f2 Kp (f2 Y6 (Jr 3) (f2 Y8 (f2 Q0E (Jr 3) (Jq (.int 3))) (Jq (.int 39373)))) (Jq (.int 2305843009213693951))) (Jq (.int 128))) (Jr 1))) (Xt))))))
def X4:List Sl → Option (D × List Sl):=fnF [true,false] 4 .n Q6z
theorem Q5s (T:Txt K mg)  {f:Addr} {fd:FuncData} (Fu:Fun K "_law_draw" "_law_draw" Q0M f fd) (m:mg "_law_draw" = some (.ref f)):GK P w K mg base "_law_draw" 1 2 .n X4:=by
 refine ⟨f,fd,["_law_deck_here", "_law_most"],V0 Fu Q2v rfl (fun cd A out s G E hG hr=>?_),rfl,m,Fu.kp,Fu.binds fun _ _ _ _ _ _ us hl=>match us,hl with | [_,_],_=>rfl⟩
 have S:=Q2v; have h1:=hu1 hr; have h65:=Wp hr; have h66:=Ws hr; have h67:=Ww hr
 exact Jm (Qdx h1 (nmk 0) (Jy X9 Xa (Q7B h1 (nmk 0)) (Jl)) ⟨rfl,rfl,rfl,fun _=>rfl⟩) (Jm (Y4 rfl (tgk 2 S.nd) (Q7w (Qd9 h65 (nmk 0)) (QcC h1 (nmk 0)) (Qb0 h1 (nmk 0) (by intro _ _; rfl) ⟨rfl,rfl⟩))) (Jm (Vy (Yg QdI.op Xr (Jt 2) (Jy op_pow Q0d (Jl) (Jl))) (Jm (Q3Z (Q8G h1 (nmk 0) (by intro _ _; rfl) (Jy op_fdiv Q3y (Jt 2) (Jt 1)) ⟨rfl,rfl,rfl,rfl,rfl⟩)) (Jm (Xy (Jy op_mod Q1W (Jt 2) (Jt 1))) (X5))) (X5)) (Jm (Y4 rfl (tgk 3 S.nd) (Jy op_mod Q1W (Jy Xh Xg (Jy X9 Xa (Jy X9 Xa (Jy op_mod Q1W (Jt 2) (Jl)) (Jy Xh Xg (Jl) (Q7B h1 (nmk 0)))) (Jl)) (Jl)) (Jl))) (Jm (Y4 rfl (tgk 3 S.nd) (Jy op_mod Q1W (Jy X9 Xa (Jy X9 Xa (Jy Xh Xg (Jt 3) (Jt 3)) (Jy Xh Xg (Jl) (Q7B h1 (nmk 0)))) (Jl)) (Jl))) (Jm (Xy (Jy op_mod Q1W (Jy op_fdiv Q3y (Jy op_mod Q1W (Jy Xh Xg (Jt 3) (Jy X9 Xa (Jy op_fdiv Q3y (Jt 3) (Jl)) (Jl))) (Jl)) (Jl)) (Jt 1))) (X5))))))
abbrev Q17:Stmt:=top 31
theorem Q2F:FnScope ["_law_deck_here", "_law_some"] ["_law_deck_here", "_law_some"] (defScope Q17):=⟨rfl,rfl,rfl,by decide +kernel,rfl,by decide +kernel,by decide +kernel⟩
def Q6S:List Sl → Option Out:=Ju (Yl (f2 Ye (Jr 1) (Xb [] true X4 (kIo 0 (X1 (fA (g1 Zq) (Js (Jr 1) (Xf))) (Y0)))))) (Xt)
def Yt:List Sl → Option (D × List Sl):=fnF [true,false] 2 .n Q6S
theorem Q5q (T:Txt K mg) (k__law_draw:GK P w K mg base "_law_draw" 1 2 .n X4) {f:Addr} {fd:FuncData} (Fu:Fun K "_law_pick" "_law_pick" Q17 f fd) (m:mg "_law_pick" = some (.ref f)):GK P w K mg base "_law_pick" 2 2 .n Yt:=by
 refine ⟨f,fd,["_law_deck_here", "_law_some"],V0 Fu Q2F rfl (fun cd A out s G E hG hr=>?_),rfl,m,Fu.kp,Fu.binds fun _ _ _ _ _ _ us hl=>match us,hl with | [_,_],_=>rfl⟩
 have S:=Q2F; have h1:=hu1 hr; have h65:=Wp hr; have h66:=Ws hr; have h67:=Ww hr
 exact Jm (Xy (Xw h1 (Jt 1) (Xl (k__law_draw.kn hr hG) (Yi (nmk 0) (Jw (Y1 (bnk T.m_len) Wf Wg (Jn (Jt 1) (Jz))) (X6)))))) (X5)
abbrev Q0y:Stmt:=top 32
theorem Q1C:FnScope ["_law_deck_here", "_law_way", "_law_heads", "_law_blocks"] ["_law_deck_here"] (defScope Q0y):=⟨rfl,rfl,rfl,by decide +kernel,rfl,by decide +kernel,by decide +kernel⟩
def Q5v:List Sl → Option Out:=Ju (Ys 1 (Xb [] true X4 (kIo 0 (X1 (Jq (.int 8)) (Y0))))) (Ju (Q6L 2 3 (Js (f2 Y8 (Jq (.int 3)) (Xb [] true X4 (kIo 0 (X1 (Jq (.int 5)) (Y0))))) (Js (f2 Y8 (Jq (.int 4)) (Xb [] true X4 (kIo 0 (X1 (Jq (.int 7)) (Y0))))) (Xf)))) (Ju (Yl (f2 Ye (W8 (Js (Ki (Js (Jr 2) (Js (Jr 3) (Xf)))) (Js (Ki (Js (Jq (.int 8)) (Js (Jq (.int 12)) (Xf)))) (Js (Ki (Js (Jq (.int 2)) (Js (Jq (.int 3)) (Xf)))) (Xf))))) (f2 Y8 (fA (g1 Q8M) (Js (f2 (bD eqD) (Jr 1) (Jq (.int 5))) (Xf))) (f2 Y6 (Jq (.int 2)) (fA (g1 Q8M) (Js (f2 (bD eqD) (Jr 1) (Jq (.int 3))) (Xf))))))) (Xt)))
def K7:List Sl → Option (D × List Sl):=fnF [true] 4 .n Q5v
theorem Q4A (T:Txt K mg) (k__law_draw:GK P w K mg base "_law_draw" 1 2 .n X4) {f:Addr} {fd:FuncData} (Fu:Fun K "_law_shape" "_law_shape" Q0y f fd) (m:mg "_law_shape" = some (.ref f)):GK P w K mg base "_law_shape" 2 1 .n K7:=by
 refine ⟨f,fd,["_law_deck_here"],V0 Fu Q1C rfl (fun cd A out s G E hG hr=>?_),rfl,m,Fu.kp,Fu.binds fun _ _ _ _ _ _ us hl=>match us,hl with | [_],_=>rfl⟩
 have S:=Q1C; have h1:=hu1 hr; have h65:=Wp hr; have h66:=Ws hr; have h67:=Ww hr
 exact Jm (Y4 rfl (tgk 1 S.nd) (Xl (k__law_draw.kn hr hG) (Yi (nmk 0) (Jw (Jl) (X6))))) (Jm (QbC rfl rfl rfl (tgk 2 S.nd) (tgk 3 S.nd) (by decide) rfl rfl (Jn (Jy X9 Xa (Jl) (Xl (k__law_draw.kn hr hG) (Yi (nmk 0) (Jw (Jl) (X6))))) (Jn (Jy X9 Xa (Jl) (Xl (k__law_draw.kn hr hG) (Yi (nmk 0) (Jw (Jl) (X6))))) (Jz)))) (Jm (Xy (Xw h1 (NV.ev (Yc (Jn (V8 (Jn (Jt 2) (Jn (Jt 3) (Jz)))) (Jn (V8 (Jn (Jl) (Jn (Jl) (Jz)))) (Jn (V8 (Jn (Jl) (Jn (Jl) (Jz)))) (Jz)))))) (Jy X9 Xa (Vv (bnk T.m_int) Q7z Q7L (Jn (Q0T (Q0j h65).op Xr (Jt 1) (Jl)) (Jz))) (Jy Xh Xg (Jl) (Vv (bnk T.m_int) Q7z Q7L (Jn (Q0T (Q0j h65).op Xr (Jt 1) (Jl)) (Jz))))))) (X5)))
abbrev Q0A:Stmt:=top 33
theorem Q1G:FnScope ["_law_kind", "_law_rows"] ["_law_kind", "_law_rows"] (defScope Q0A):=⟨rfl,rfl,rfl,by decide +kernel,rfl,by decide +kernel,by decide +kernel⟩
def Q5X:List Sl → Option Out:=Ju (Yl (f2 Q0E (f2 Y8 (f2 Y6 (Jr 0) (fA (g1 Zq) (Js (Jr 1) (Xf)))) (Jq (.int 3))) (Jq (.int 4)))) (Xt)
def Yb:List Sl → Option (D × List Sl):=fnF [false,false] 2 .n Q5X
theorem Q4q (T:Txt K mg)  {f:Addr} {fd:FuncData} (Fu:Fun K "_law_needs" "_law_needs" Q0A f fd) (m:mg "_law_needs" = some (.ref f)):GK P w K mg base "_law_needs" 1 2 .n Yb:=by
 refine ⟨f,fd,["_law_kind", "_law_rows"],V0 Fu Q1G rfl (fun cd A out s G E hG hr=>?_),rfl,m,Fu.kp,Fu.binds fun _ _ _ _ _ _ us hl=>match us,hl with | [_,_],_=>rfl⟩
 have S:=Q1G; have h1:=hu1 hr; have h65:=Wp hr; have h66:=Ws hr; have h67:=Ww hr
 exact Jm (Xy (Jy op_fdiv Q3y (Jy X9 Xa (Jy Xh Xg (Jt 0) (Y1 (bnk T.m_len) Wf Wg (Jn (Jt 1) (Jz)))) (Jl)) (Jl))) (X5)
abbrev Zv:Stmt:=top 34
theorem Q2d:FnScope ["_law_model_here", "_law_blocks", "_law_head"] ["_law_model_here", "_law_blocks"] (defScope Zv):=⟨rfl,rfl,rfl,by decide +kernel,rfl,by decide +kernel,by decide +kernel⟩
def Q6M:List Sl → Option Out:=Ju (Yl (f2 Z0 (f2 Z0 (Jr 1) (Jq (.int 3))) (fA (g1 Q5R) (Js (fLc (.nm 2) [2] (fIt (Jr 0)) (fun δ=>toB (f2 (bD neD) (Jr 2) (Jq (.int 2)) δ)) (Xb [] true Yb (X1 (f2 Ye (f2 Ye (Jr 0) (Jr 2)) (Jq (.int 0))) (X1 (f2 Ye (f2 Ye (Jr 0) (Jr 2)) (Jq (.int 1))) (Y0))))) (Xf))))) (Xt)
def Vq:List Sl → Option (D × List Sl):=fnF [false,false] 3 .n Q6M
theorem Q5h (T:Txt K mg) (k__law_needs:GK P w K mg base "_law_needs" 1 2 .n Yb) {f:Addr} {fd:FuncData} (Fu:Fun K "_law_left" "_law_left" Zv f fd) (m:mg "_law_left" = some (.ref f)):GK P w K mg base "_law_left" 2 2 .n Vq:=by
 refine ⟨f,fd,["_law_model_here", "_law_blocks"],V0 Fu Q2d rfl (fun cd A out s G E hG hr=>?_),rfl,m,Fu.kp,Fu.binds fun _ _ _ _ _ _ us hl=>match us,hl with | [_,_],_=>rfl⟩
 have S:=Q2d; have h1:=hu1 hr; have h65:=Wp hr; have h66:=Ws hr; have h67:=Ww hr
 exact Jm (Xy (Jy op_sub Yr (Jy op_sub Yr (Jt 1) (Jl)) (Y1 (bnk T.m_sum) (Q5f rfl) Q7O (Jn (NV.ev (Q16 (own:=[("_law_head",2)]) rfl S.nd (Vj (Jt 0)) (Wa (N:=["_law_model_here", "_law_blocks", "_law_head"]) (sc:=defScope Zv) (by decide +kernel)) (fun _ _ _ _ _=>X8 (tgk 2 S.nd)) (fun _ _ _ _ _=>Q8E (Yg (Q1b h65).op Xr (Jt 2) (Jl))) (fun _ _ _ _ _=>Xl (k__law_needs.kn hr hG) (Jw (Xw h1 (Xw h1 (Jt 0) (Jt 2)) (Jl)) (Jw (Xw h1 (Xw h1 (Jt 0) (Jt 2)) (Jl)) (X6)))))) (Jz))))) (X5)
abbrev Km:Stmt:=top 35
theorem Q1H:FnScope ["_law_model_here", "_law_blocks", "_law_folder", "_law_name", "_law_head", "_law_kind", "_law_rows", "_law_more", "_law_room", "_law_one"] ["_law_model_here", "_law_blocks", "_law_folder", "_law_name", "_law_head"] (defScope Km):=⟨rfl,rfl,rfl,by decide +kernel,rfl,by decide +kernel,by decide +kernel⟩
def Q5l:List Sl → Option Out:=Ju (Q3r (.cons (.nm 5) (.cons (.nm 6) (.nil))) (fLk 0 (f2 Ye (fRd 0) (Jr 2)))) (Ju (Ys 7 (fA (g1 Q6u) (Js (f2 Y8 (Jr 6) (W8 (Js (Ki (Js (Jr 3) (Js (Jr 4) (Xf)))) (Xf)))) (Xf)))) (Ju (Ys 8 (f2 (bD leD) (f2 Z0 (Xb [] true Yb (X1 (Jq (.int 2)) (X1 (Jr 7) (Y0)))) (Xb [] true Yb (X1 (Jq (.int 2)) (X1 (Jr 6) (Y0))))) (fLk 0 (Xb [0] true Vq (X1 (fRd 0) (X1 (Jr 1) (Y0))))))) (Ju (sIf (Q5j (fun δ=>toB (f2 (bD ltD) (fA (g1 Zq) (Js (Jr 6) (Xf))) (Jq (.int 6)) δ)) (Q5j (fun δ=>toB ((Jr 8) δ)) (fun δ=>toB (f2 (bD eqD) (fLc (.nm 9) [9] (fIt (Jr 6)) (fun δ=>toB (f2 (bD eqD) (f2 Ye (Jr 9) (Jq (.int 0))) (Jr 3) δ)) (Jr 9)) (W8 (Xf)) δ)))) (Ju (Q0l 0 (Jr 2) (Ki (Js (Jq (.int 2)) (Js (Jr 7) (Xf))))) (Ju (Yl (Jq (.bool true))) (Xt))) (Xt)) (Ju (Yl (Jq (.bool false))) (Xt)))))
def Vx:List Sl → Option (D × List Sl):=fnF [true,false,false,false,false] 10 .n Q5l
theorem Q4p (T:Txt K mg) (k__law_left:GK P w K mg base "_law_left" 2 2 .n Vq) (k__law_needs:GK P w K mg base "_law_needs" 1 2 .n Yb) {f:Addr} {fd:FuncData} (Fu:Fun K "_law_enter" "_law_enter" Km f fd) (m:mg "_law_enter" = some (.ref f)):GK P w K mg base "_law_enter" 3 5 .n Vx:=by
 refine ⟨f,fd,["_law_model_here", "_law_blocks", "_law_folder", "_law_name", "_law_head"],V0 Fu Q1H rfl (fun cd A out s G E hG hr=>?_),rfl,m,Fu.kp,Fu.binds fun _ _ _ _ _ _ us hl=>match us,hl with | [_,_,_,_,_],_=>rfl⟩
 have S:=Q1H; have h1:=hu1 hr; have h65:=Wp hr; have h66:=Ws hr; have h67:=Ww hr
 exact Jm (Q2Z (by decide) (Q7R 0 (Xw h1 (Yj 0) (Jt 2))) (Q3D rfl (Xo (X8 (tgk 5 S.nd)) (Xo (X8 (tgk 6 S.nd)) (W4))))) (Jm (Y4 rfl (tgk 7 S.nd) (NV.ev (Q4j (bnk T.m_sorted) (Q72 h67) Q8q (Jn (Jy X9 Xa (Jt 6) (NV.ev (Yc (Jn (V8 (Jn (Jt 3) (Jn (Jt 4) (Jz)))) (Jz))))) (Jz))))) (Jm (Y4 rfl (tgk 8 S.nd) (Q0T Q3E.op Xr (Jy op_sub Yr (Xl (k__law_needs.kn hr hG) (Jw (Jl) (Jw (Jt 7) (X6)))) (Xl (k__law_needs.kn hr hG) (Jw (Jl) (Jw (Jt 6) (X6))))) (Q7R 0 (Xl (k__law_left.kn hr hG) (Jw (Yj 0) (Jw (Jt 1) (X6))))))) (Jm (Vy (WV.tv (Q7h (Yg (Q68 h65).op Xr (Y1 (bnk T.m_len) Wf Wg (Jn (Jt 6) (Jz))) (Jl)) (Q7h (Wy (Jt 8)) (Q8e (Yg (Q0j h65).op Xr (NV.ev (Q16 (own:=[("_law_one",9)]) rfl S.nd (Vj (Jt 6)) (Wa (N:=["_law_model_here", "_law_blocks", "_law_folder", "_law_name", "_law_head", "_law_kind", "_law_rows", "_law_more", "_law_room", "_law_one"]) (sc:=defScope Km) (by decide +kernel)) (fun _ _ _ _ _=>X8 (tgk 9 S.nd)) (fun _ _ _ _ _=>Q8E (Yg (Q0j h65).op Xr (Xw h1 (Jt 9) (Jl)) (Jt 3))) (fun _ _ _ _ _=>Jt 9))) (NV.ev (Yc (Jz)))))))) (Jm (Kh h1 (nmk 0) (Jt 2) (V8 (Jn (Jl) (Jn (Jt 7) (Jz)))) ⟨rfl,rfl,rfl,fun _=>rfl⟩) (Jm (Xy (Q3h)) (X5))) (X5)) (Jm (Xy (Q3h)) (X5)))))
abbrev Ks:Stmt:=top 36
theorem Q1K:FnScope ["_law_deck_here", "_law_heads", "_law_blocks", "_law_model_here", "_law_folders", "_law_left_here", "_law_head", "_law_way", "_law_times", "_law_folder", "_law_worths", "_law_name", "_law_entered", "_law_k"] ["_law_deck_here", "_law_heads", "_law_blocks"] (defScope Ks):=⟨rfl,rfl,rfl,by decide +kernel,rfl,by decide +kernel,by decide +kernel⟩
def Q5A:List Sl → Option Out:=Ju (Zk 3 (Q56 (Q3W (Jq (.int 1)) (Ki (Js (Jq (.int 2)) (Js (W8 (Xf)) (Xf)))) (Q3W (Jq (.int 2)) (Ki (Js (Jq (.int 2)) (Js (W8 (Xf)) (Xf)))) (QbM))))) (Ju (Zk 4 (W8 (Js (Jq (.int 1)) (Xf)))) (Ju (Zk 5 (f2 rgD (Jq (.int 3)) (f2 Y8 (Jr 1) (Jq (.int 1))))) (Ju (Q2R [6,7,8,9,10,11,12,13] (Q0a (fun δ=>toB (f2 (bD neD) (fRd 5) (W8 (Xf)) δ)) (Ju (Ys 6 (Q34 5 (Xb [] true X4 (kIo 0 (X1 (fA (g1 Zq) (Js (fRd 5) (Xf))) (Y0)))))) (Ju (Ys 7 (Xb [] true X4 (kIo 0 (X1 (Jq (.int 6)) (Y0))))) (Ju (Ys 8 (Xb [] true Yt (kIo 0 (X1 (W8 (Js (Jq (.int 1)) (Js (Jq (.int 1)) (Js (Jq (.int 2)) (Js (Jq (.int 3)) (Xf)))))) (Y0))))) (Ju (Ys 9 (Xb [4] true Yt (kIo 0 (X1 (fRd 4) (Y0))))) (Ju (sIf (fun δ=>toB (f2 (bD eqD) (Jr 7) (Jq (.int 0)) δ)) (Ju (Q7H [6,7,8,9,10,11,12,13]) (Xt)) (Xt)) (Ju (Zk 10 (fLc (.nm 13) [13] (Q1Y (Js (Xb [] true X4 (kIo 0 (X1 (Jq (.int 13)) (Y0)))) (Xf))) (Q0h) (Xb [] true X4 (kIo 0 (X1 (Jq (.int 100)) (Y0)))))) (Ju (Q0l 3 (Jr 6) (Q1N (fun δ=>toB (f2 (bD ltD) (Jr 7) (Jq (.int 3)) δ)) (Ki (Js (Jq (.int 2)) (Js (W8 (Xf)) (Xf)))) (Ki (Js (Jq (.int 1)) (Js (f3 Q0I (fRd 10) (Q0O) (Vh (f2 Y6 (Jq (.int 4)) (fLk 3 (Xb [3] true Vq (X1 (fRd 3) (X1 (Jr 2) (Y0)))))))) (Xf)))))) (Ju (Ys 11 (f2 Y8 (Jq (.int 1)) (Xb [] true X4 (kIo 0 (X1 (Jq (.int 99)) (Y0)))))) (Ju (Ys 12 (Q2Q (f2 (bD neD) (Jr 7) (Jq (.int 5))) (Xb [] true Vx (kIo 3 (X1 (Jr 2) (X1 (Jr 9) (X1 (Jr 11) (X1 (Jr 6) (Y0))))))))) (Ju (sIf (Q0t (fun δ=>toB ((Jr 12) δ))) (Ju (Q0l 3 (Jq (.int 2)) (Ki (Js (Jq (.int 2)) (Js (fA (g1 Q6u) (Js (f2 Y8 (f2 Ye (fLk 3 (f2 Ye (fRd 3) (Jq (.int 2)))) (Jq (.int 1))) (W8 (Js (Ki (Js (Jr 6) (Js (Jr 6) (Xf)))) (Xf)))) (Xf))) (Xf))))) (Xt)) (Xt)) (Ju (Q2R [13] (Zs (.nm 13) (Q1Y (Js (f2 Y6 (f2 Z0 (Jr 8) (Jq (.int 1))) (fA (g1 Q8M) (Js (f2 (bD gtD) (Jr 7) (Jq (.int 2))) (Xf)))) (Xf))) (Ju (Q3q (Xb [] true Vx (kIo 3 (X1 (Jr 2) (X1 (Xb [4] true Yt (kIo 0 (X1 (fRd 4) (Y0)))) (X1 (f2 Y8 (Jq (.int 1)) (Xb [] true X4 (kIo 0 (X1 (Jq (.int 99)) (Y0))))) (X1 (Jr 6) (Y0)))))))) (Kk [13])))) (Ju (sIf (fun δ=>toB (f2 (bD ltD) (Jr 7) (Jq (.int 3)) δ)) (Ju (Q3q (Q71 4 (Jr 6))) (Xt)) (Xt)) (Kk [6,7,8,9,10,11,12,13]))))))))))))) 100)) (Ju (Q4I 3) (Xt)))))
def K4:List Sl → Option (D × List Sl):=fnF [true,false,false] 14 .l Q5A
theorem Q4D (T:Txt K mg) (k__law_draw:GK P w K mg base "_law_draw" 1 2 .n X4) (k__law_enter:GK P w K mg base "_law_enter" 3 5 .n Vx) (k__law_left:GK P w K mg base "_law_left" 2 2 .n Vq) (k__law_pick:GK P w K mg base "_law_pick" 2 2 .n Yt) {f:Addr} {fd:FuncData} (Fu:Fun K "_law_model" "_law_model" Ks f fd) (m:mg "_law_model" = some (.ref f)):GK P w K mg base "_law_model" 4 3 .l K4:=by
 refine ⟨f,fd,["_law_deck_here", "_law_heads", "_law_blocks"],V0 Fu Q1K rfl (fun cd A out s G E hG hr=>?_),rfl,m,Fu.kp,Fu.binds fun _ _ _ _ _ _ us hl=>match us,hl with | [_,_,_],_=>rfl⟩
 have S:=Q1K; have h1:=hu1 hr; have h65:=Wp hr; have h66:=Ws hr; have h67:=Ww hr
 exact Jm (Q0b rfl (tgk 3 S.nd) (Q8s (Q5i (Jl) (V8 (Jn (Jl) (Jn (NV.ev (Yc (Jz))) (Jz)))) (Q5i (Jl) (V8 (Jn (Jl) (Jn (NV.ev (Yc (Jz))) (Jz)))) (Q9L))))) (Jm (Q0b rfl (tgk 4 S.nd) (Yc (Jn (Jl) (Jz)))) (Jm (Q0b rfl (tgk 5 S.nd) (Q8D rfl T.m_list T.m_range (Jl) (Jy X9 Xa (Jt 1) (Jl)))) (Jm (Zd rfl (Qax (passes_of rfl) (Yg (Q1b h65).op Xr (Yj 5) (NV.ev (Yc (Jz)))) (Jm (Y4 rfl (tgk 6 S.nd) (Q6b (nmk 5) (Xl (k__law_draw.kn hr hG) (Yi (nmk 0) (Jw (Y1 (bnk T.m_len) Wf Wg (Jn (Yj 5) (Jz))) (X6)))) ⟨rfl,rfl,rfl,rfl,rfl⟩)) (Jm (Y4 rfl (tgk 7 S.nd) (Xl (k__law_draw.kn hr hG) (Yi (nmk 0) (Jw (Jl) (X6))))) (Jm (Y4 rfl (tgk 8 S.nd) (Xl (k__law_pick.kn hr hG) (Yi (nmk 0) (Jw (NV.ev (Yc (Jn (Jl) (Jn (Jl) (Jn (Jl) (Jn (Jl) (Jz))))))) (X6))))) (Jm (Y4 rfl (tgk 9 S.nd) (Xl (k__law_pick.kn hr hG) (Yi (nmk 0) (Jw (Yj 4) (X6))))) (Jm (Vy (Yg (Q0j h65).op Xr (Jt 7) (Jl)) (Jm (Q9D rfl) (X5)) (X5)) (Jm (Q89 (own:=[("_law_k",13)]) rfl S.nd rfl rfl rfl (Z7 rfl T.m_range (Jn (Xl (k__law_draw.kn hr hG) (Yi (nmk 0) (Jw (Jl) (X6)))) (Jz)) rfl (Q1r (Q2T))) (Wa (N:=["_law_deck_here", "_law_heads", "_law_blocks", "_law_model_here", "_law_folders", "_law_left_here", "_law_head", "_law_way", "_law_times", "_law_folder", "_law_worths", "_law_name", "_law_entered", "_law_k"]) (sc:=defScope Ks) (by decide +kernel)) (fun _ _ _ _ _=>X8 (tgk 13 S.nd)) (fun _ _ _ _ _=>Vo) (fun _ _ _ _ _=>Xl (k__law_draw.kn hr hG) (Yi (nmk 0) (Jw (Jl) (X6)))) (by intro _; rfl) (by decide) (by decide) rfl) (Jm (Kh h1 (nmk 3) (Jt 6) (Q7w (Yg (Q68 h65).op Xr (Jt 7) (Jl)) (V8 (Jn (Jl) (Jn (NV.ev (Yc (Jz))) (Jz)))) (V8 (Jn (Jl) (Jn (V2 (Yj 10) (Ko) (Yu (Jy Xh Xg (Jl) (Q7R 3 (Xl (k__law_left.kn hr hG) (Jw (Yj 3) (Jw (Jt 2) (X6)))))))) (Jz))))) ⟨rfl,rfl,rfl,fun _=>rfl⟩) (Jm (Y4 rfl (tgk 11 S.nd) (Jy X9 Xa (Jl) (Xl (k__law_draw.kn hr hG) (Yi (nmk 0) (Jw (Jl) (X6)))))) (Jm (Y4 rfl (tgk 12 S.nd) (Q3B (Q0T (Q1b h65).op Xr (Jt 7) (Jl)) (Q3v (Xl (k__law_enter.kn hr hG) (Yi (nmk 3) (Jw (Jt 2) (Jw (Jt 9) (Jw (Jt 11) (Jw (Jt 6) (X6)))))))))) (Jm (Vy (Wu (Wy (Jt 12))) (Jm (Kh h1 (nmk 3) (Jl) (V8 (Jn (Jl) (Jn (NV.ev (Q4j (bnk T.m_sorted) (Q72 h67) Q8q (Jn (Jy X9 Xa (Xw h1 (Q7R 3 (Xw h1 (Yj 3) (Jl))) (Jl)) (NV.ev (Yc (Jn (V8 (Jn (Jt 6) (Jn (Jt 6) (Jz)))) (Jz))))) (Jz)))) (Jz)))) ⟨rfl,rfl,rfl,fun _=>rfl⟩) (X5)) (X5)) (Jm (Zd rfl (Q08 (passes_of rfl) rfl (Z7 rfl T.m_range (Jn (Jy Xh Xg (Jy op_sub Yr (Jt 8) (Jl)) (Vv (bnk T.m_int) Q7z Q7L (Jn (Q0T QdT.op Xr (Jt 7) (Jl)) (Jz)))) (Jz)) rfl (Q1r (Q2T))) (X8 (tgk 13 S.nd)) (by decide) (Jm (Q3Z (Xl (k__law_enter.kn hr hG) (Yi (nmk 3) (Jw (Jt 2) (Jw (Xl (k__law_pick.kn hr hG) (Yi (nmk 0) (Jw (Yj 4) (X6)))) (Jw (Jy X9 Xa (Jl) (Xl (k__law_draw.kn hr hG) (Yi (nmk 0) (Jw (Jl) (X6))))) (Jw (Jt 6) (X6)))))))) (Vs rfl)))) (Jm (Vy (Yg (Q68 h65).op Xr (Jt 7) (Jl)) (Jm (Q3Z (Q9T (nmk 4) (Jt 6) ⟨rfl,rfl,rfl,rfl,rfl⟩)) (X5)) (X5)) (Vs rfl))))))))))))))) (Jm (Q7P (i:=3) rfl rfl (by first | exact .inl rfl | exact .inr (.inl rfl)) (by decide) (by decide)) (X5)))))
abbrev Ky:Stmt:=top 37
theorem Q1B:FnScope ["_law_deck_here", "_law_model_here", "_law_blocks", "_law_left_here", "_law_given_here", "_law_head", "_law_many", "_law_k"] ["_law_deck_here", "_law_model_here", "_law_blocks"] (defScope Ky):=⟨rfl,rfl,rfl,by decide +kernel,rfl,by decide +kernel,by decide +kernel⟩
def Q5y:List Sl → Option Out:=Ju (Zk 3 (f2 rgD (Jq (.int 4)) (f2 Y8 (Jr 2) (Jq (.int 1))))) (Ju (Zk 4 (Q56 (Q3W (Jq (.int 2)) (W8 (Js (Jq (.int 1)) (Js (Jq (.int 2)) (Js (Jq (.int 3)) (Xf))))) (QbM)))) (Ju (Q2R [5,6] (Zs (.nm 5) (fIt (fA (g1 Q5T) (Js (Jr 1) (Xf)))) (Ju (sIf (fun δ=>toB (f2 (bD neD) (Jr 5) (Jq (.int 2)) δ)) (Ju (Ys 6 (Xb [] true Yb (X1 (f2 Ye (f2 Ye (Jr 1) (Jr 5)) (Jq (.int 0))) (X1 (f2 Ye (f2 Ye (Jr 1) (Jr 5)) (Jq (.int 1))) (Y0))))) (Ju (Q0l 4 (Jr 5) (fLc (.nm 7) [7] (Q1Y (Js (Jr 6) (Xf))) (Q0h) (Q34 3 (Xb [] true X4 (kIo 0 (X1 (fA (g1 Zq) (Js (fRd 3) (Xf))) (Y0))))))) (Kk [6]))) (Kk [6])) (Kk [5,6])))) (Ju (Q4I 4) (Xt))))
def K9:List Sl → Option (D × List Sl):=fnF [true,false,false] 8 .l Q5y
theorem Q4B (T:Txt K mg) (k__law_draw:GK P w K mg base "_law_draw" 1 2 .n X4) (k__law_needs:GK P w K mg base "_law_needs" 1 2 .n Yb) {f:Addr} {fd:FuncData} (Fu:Fun K "_law_given" "_law_given" Ky f fd) (m:mg "_law_given" = some (.ref f)):GK P w K mg base "_law_given" 2 3 .l K9:=by
 refine ⟨f,fd,["_law_deck_here", "_law_model_here", "_law_blocks"],V0 Fu Q1B rfl (fun cd A out s G E hG hr=>?_),rfl,m,Fu.kp,Fu.binds fun _ _ _ _ _ _ us hl=>match us,hl with | [_,_,_],_=>rfl⟩
 have S:=Q1B; have h1:=hu1 hr; have h65:=Wp hr; have h66:=Ws hr; have h67:=Ww hr
 exact Jm (Q0b rfl (tgk 3 S.nd) (Q8D rfl T.m_list T.m_range (Jl) (Jy X9 Xa (Jt 2) (Jl)))) (Jm (Q0b rfl (tgk 4 S.nd) (Q8s (Q5i (Jl) (NV.ev (Yc (Jn (Jl) (Jn (Jl) (Jn (Jl) (Jz)))))) (Q9L)))) (Jm (Zd rfl (Q08 (passes_of rfl) rfl (Vj (NV.ev (Q4j (bnk T.m_sorted) (Q95 rfl) Q9K (Jn (Jt 1) (Jz))))) (X8 (tgk 5 S.nd)) (by decide) (Jm (Vy (Yg (Q1b h65).op Xr (Jt 5) (Jl)) (Jm (Y4 rfl (tgk 6 S.nd) (Xl (k__law_needs.kn hr hG) (Jw (Xw h1 (Xw h1 (Jt 1) (Jt 5)) (Jl)) (Jw (Xw h1 (Xw h1 (Jt 1) (Jt 5)) (Jl)) (X6))))) (Jm (Kh h1 (nmk 4) (Jt 5) (NV.ev (Q16 (own:=[("_law_k",7)]) rfl S.nd (Z7 rfl T.m_range (Jn (Jt 6) (Jz)) rfl (Q1r (Q2T))) (Wa (N:=["_law_deck_here", "_law_model_here", "_law_blocks", "_law_left_here", "_law_given_here", "_law_head", "_law_many", "_law_k"]) (sc:=defScope Ky) (by decide +kernel)) (fun _ _ _ _ _=>X8 (tgk 7 S.nd)) (fun _ _ _ _ _=>Vo) (fun _ _ _ _ _=>Q6b (nmk 3) (Xl (k__law_draw.kn hr hG) (Yi (nmk 0) (Jw (Y1 (bnk T.m_len) Wf Wg (Jn (Yj 3) (Jz))) (X6)))) ⟨rfl,rfl,rfl,rfl,rfl⟩))) ⟨rfl,rfl,rfl,fun _=>rfl⟩) (Vs rfl))) (Vs rfl)) (Vs rfl)))) (Jm (Q7P (i:=4) rfl rfl (by first | exact .inl rfl | exact .inr (.inl rfl)) (by decide) (by decide)) (X5))))
abbrev Q13:Stmt:=top 38
theorem Q2x:FnScope ["_law_heads", "_law_blocks", "_law_model_here", "_law_given_here", "_law_cells", "_law_head", "_law_row", "_law_kind", "_law_rows", "_law_name", "_law_other", "_law_j", "_law_block", "_law_k", "_law_worth"] ["_law_heads", "_law_blocks", "_law_model_here", "_law_given_here"] (defScope Q13):=⟨rfl,rfl,rfl,by decide +kernel,rfl,by decide +kernel,by decide +kernel⟩
def Q6y:List Sl → Option Out:=Ju (Zk 4 (f2 Q7I (W8 (Js (Jq (.int 0)) (Xf))) (f2 Y8 (f2 Y8 (f2 Y6 (Jq (.int 7)) (Jr 0)) (f2 Y6 (Jq (.int 5)) (Jr 1))) (Jq (.int 82))))) (Ju (Q2R [5,6,7,8,9,10,11,12,13,14] (Zs (.nm 5) (fIt (Jr 2)) (Ju (Q3r (.cons (.nm 7) (.cons (.nm 8) (.nil))) (f2 Ye (Jr 2) (Jr 5))) (Ju (Zk 6 (Q1N (fun δ=>toB (f2 (bD eqD) (Jr 7) (Jq (.int 1)) δ)) (fA (g1 Q4K) (Js (Jr 8) (Xf))) (W8 (Xf)))) (Ju (Q2R [9,10] (Zs (.cons (.nm 9) (.cons (.nm 10) (.nil))) (fIt (Q1N (fun δ=>toB (f2 (bD eqD) (Jr 7) (Jq (.int 2)) δ)) (Jr 8) (W8 (Xf)))) (Ju (Q3q (Q9o 6 (W8 (Js (Jr 9) (Js (Jr 10) (Xf)))))) (Ju (Q0l 4 (f2 Z0 (f2 Y6 (Jq (.int 7)) (Jr 10)) (Jq (.int 6))) (f2 Y8 (f2 Ye (fRd 4) (f2 Z0 (f2 Y6 (Jq (.int 7)) (Jr 10)) (Jq (.int 6)))) (Jq (.int 1)))) (Kk [9,10]))))) (Ju (Q0l 4 (f2 Z0 (f2 Y6 (Jq (.int 7)) (Jr 5)) (Jq (.int 7))) (Jr 7)) (Ju (Q0l 4 (f2 Z0 (f2 Y6 (Jq (.int 7)) (Jr 5)) (Jq (.int 5))) (fA (g1 Zq) (Js (fRd 6) (Xf)))) (Ju (Q0l 4 (f2 Z0 (f2 Y6 (Jq (.int 7)) (Jr 5)) (Jq (.int 4))) (fA (g1 Q5R) (Js (fRd 6) (Xf)))) (Ju (Q2R [11,12,13,14] (Zs (.cons (.nm 11) (.cons (.nm 12) (.nil))) (Q3o (f2 Ye (Jr 3) (Jr 5))) (Ju (Q0l 4 (f2 Y8 (f2 Z0 (f2 Y6 (Jq (.int 7)) (Jr 5)) (Jq (.int 3))) (Jr 11)) (Jr 12)) (Ju (Q0l 4 (f2 Z0 (f2 Y8 (f2 Y6 (Jq (.int 7)) (Jr 0)) (Jr 12)) (Jq (.int 1))) (Jq (.int 1))) (Ju (Q2R [13,14] (Zs (.cons (.nm 13) (.cons (.nm 14) (.nil))) (Q3o (f3 Q0I (fRd 6) (Vh (f2 Y6 (Jq (.int 4)) (Jr 11))) (Vh (f2 Y8 (f2 Y6 (Jq (.int 4)) (Jr 11)) (Jq (.int 4)))))) (Ju (Q0l 4 (f2 Y8 (f2 Z0 (f2 Y8 (f2 Y8 (f2 Y6 (Jq (.int 7)) (Jr 0)) (Jr 1)) (f2 Y6 (Jq (.int 4)) (Jr 12))) (Jq (.int 4))) (Jr 13)) (Jr 14)) (Kk [13,14])))) (Kk [11,12,13,14])))))) (Kk [5,6,7,8,9,10,11,12,13,14])))))))))) (Ju (Yl (Ki (Js (Jr 0) (Js (Jr 1) (Js (fA (g1 Q7x) (Js (fRd 4) (Xf))) (Xf)))))) (Xt)))
def Kq:List Sl → Option (D × List Sl):=fnF [false,false,false,false] 15 .n Q6y
theorem Q5W (T:Txt K mg)  {f:Addr} {fd:FuncData} (Fu:Fun K "_law_laid" "_law_laid" Q13 f fd) (m:mg "_law_laid" = some (.ref f)):GK P w K mg base "_law_laid" 1 4 .n Kq:=by
 refine ⟨f,fd,["_law_heads", "_law_blocks", "_law_model_here", "_law_given_here"],V0 Fu Q2x rfl (fun cd A out s G E hG hr=>?_),rfl,m,Fu.kp,Fu.binds fun _ _ _ _ _ _ us hl=>match us,hl with | [_,_,_,_],_=>rfl⟩
 have S:=Q2x; have h1:=hu1 hr; have h65:=Wp hr; have h66:=Ws hr; have h67:=Ww hr
 exact Jm (Q0b rfl (tgk 4 S.nd) (Qe8 op_rep QcI (NV.ev (Yc (Jn (Jl) (Jz)))) (Jy X9 Xa (Jy X9 Xa (Jy Xh Xg (Jl) (Jt 0)) (Jy Xh Xg (Jl) (Jt 1))) (Jl)))) (Jm (Zd rfl (Q08 (passes_of rfl) rfl (Vj (Jt 2)) (X8 (tgk 5 S.nd)) (by decide) (Jm (Q2Z (by decide) (Xw h1 (Jt 2) (Jt 5)) (Q3D rfl (Xo (X8 (tgk 7 S.nd)) (Xo (X8 (tgk 8 S.nd)) (W4))))) (Jm (Q0b rfl (tgk 6 S.nd) (Qdy (Yg (Q0j h65).op Xr (Jt 7) (Jl)) (Q6f (bnk T.m_list) Q8g Q7V (Jn (Jt 8) (Jz))) (Yc (Jz)))) (Jm (Zd rfl (Q08 (passes_of rfl) rfl (Vj (Q7w (Yg (Q0j h65).op Xr (Jt 7) (Jl)) (Jt 8) (NV.ev (Yc (Jz))))) (Q3D rfl (Xo (X8 (tgk 9 S.nd)) (Xo (X8 (tgk 10 S.nd)) (W4)))) (by decide) (Jm (Q3Z (Qdj (nmk 6) (NV.ev (Yc (Jn (Jt 9) (Jn (Jt 10) (Jz))))) ⟨rfl,rfl,rfl,rfl,rfl⟩)) (Jm (Kh h1 (nmk 4) (Jy op_sub Yr (Jy Xh Xg (Jl) (Jt 10)) (Jl)) (Jy X9 Xa (Xw h1 (Yj 4) (Jy op_sub Yr (Jy Xh Xg (Jl) (Jt 10)) (Jl))) (Jl)) ⟨rfl,rfl,rfl,fun _=>rfl⟩) (Vs rfl))))) (Jm (Kh h1 (nmk 4) (Jy op_sub Yr (Jy Xh Xg (Jl) (Jt 5)) (Jl)) (Jt 7) ⟨rfl,rfl,rfl,fun _=>rfl⟩) (Jm (Kh h1 (nmk 4) (Jy op_sub Yr (Jy Xh Xg (Jl) (Jt 5)) (Jl)) (Y1 (bnk T.m_len) Wf Wg (Jn (Yj 6) (Jz))) ⟨rfl,rfl,rfl,fun _=>rfl⟩) (Jm (Kh h1 (nmk 4) (Jy op_sub Yr (Jy Xh Xg (Jl) (Jt 5)) (Jl)) (Y1 (bnk T.m_sum) (Q5f rfl) Q7O (Jn (Yj 6) (Jz))) ⟨rfl,rfl,rfl,fun _=>rfl⟩) (Jm (Zd rfl (Q08 (passes_of rfl) rfl (Q8i rfl T.m_enumerate (Xw h1 (Jt 3) (Jt 5))) (Q3D rfl (Xo (X8 (tgk 11 S.nd)) (Xo (X8 (tgk 12 S.nd)) (W4)))) (by decide) (Jm (Kh h1 (nmk 4) (Jy X9 Xa (Jy op_sub Yr (Jy Xh Xg (Jl) (Jt 5)) (Jl)) (Jt 11)) (Jt 12) ⟨rfl,rfl,rfl,fun _=>rfl⟩) (Jm (Kh h1 (nmk 4) (Jy op_sub Yr (Jy X9 Xa (Jy Xh Xg (Jl) (Jt 0)) (Jt 12)) (Jl)) (Jl) ⟨rfl,rfl,rfl,fun _=>rfl⟩) (Jm (Zd rfl (Q08 (passes_of rfl) rfl (Q8i rfl T.m_enumerate (V2 (Yj 6) (Yu (Jy Xh Xg (Jl) (Jt 11))) (Yu (Jy X9 Xa (Jy Xh Xg (Jl) (Jt 11)) (Jl))))) (Q3D rfl (Xo (X8 (tgk 13 S.nd)) (Xo (X8 (tgk 14 S.nd)) (W4)))) (by decide) (Jm (Kh h1 (nmk 4) (Jy X9 Xa (Jy op_sub Yr (Jy X9 Xa (Jy X9 Xa (Jy Xh Xg (Jl) (Jt 0)) (Jt 1)) (Jy Xh Xg (Jl) (Jt 12))) (Jl)) (Jt 13)) (Jt 14) ⟨rfl,rfl,rfl,fun _=>rfl⟩) (Vs rfl)))) (Vs rfl)))))) (Vs rfl)))))))))) (Jm (Xy (V8 (Jn (Jt 0) (Jn (Jt 1) (Jn (Vv (bnk T.m_tuple) Q2O Q2D (Jn (Yj 4) (Jz))) (Jz)))))) (X5)))
abbrev Q0C:Stmt:=top 39
theorem Q1z:FnScope ["_law_deck_here", "_law_heads", "_law_blocks", "_law_model_here"] ["_law_deck_here"] (defScope Q0C):=⟨rfl,rfl,rfl,by decide +kernel,rfl,by decide +kernel,by decide +kernel⟩
def Q5r:List Sl → Option Out:=Ju (Q3r (.cons (.nm 1) (.cons (.nm 2) (.nil))) (Xb [] true K7 (kIo 0 (Y0)))) (Ju (Ys 3 (Xb [] true K4 (kIo 0 (X1 (Jr 1) (X1 (Jr 2) (Y0)))))) (Ju (Yl (Xb [] true Kq (X1 (Jr 1) (X1 (Jr 2) (X1 (Jr 3) (X1 (Xb [] true K9 (kIo 0 (X1 (Jr 3) (X1 (Jr 2) (Y0))))) (Y0))))))) (Xt)))
def K5:List Sl → Option (D × List Sl):=fnF [true] 4 .n Q5r
theorem Q4E (T:Txt K mg) (k__law_given:GK P w K mg base "_law_given" 2 3 .l K9) (k__law_laid:GK P w K mg base "_law_laid" 1 4 .n Kq) (k__law_model:GK P w K mg base "_law_model" 4 3 .l K4) (k__law_shape:GK P w K mg base "_law_shape" 2 1 .n K7) {f:Addr} {fd:FuncData} (Fu:Fun K "_law_sound" "_law_sound" Q0C f fd) (m:mg "_law_sound" = some (.ref f)):GK P w K mg base "_law_sound" 5 1 .n K5:=by
 refine ⟨f,fd,["_law_deck_here"],V0 Fu Q1z rfl (fun cd A out s G E hG hr=>?_),rfl,m,Fu.kp,Fu.binds fun _ _ _ _ _ _ us hl=>match us,hl with | [_],_=>rfl⟩
 have S:=Q1z; have h1:=hu1 hr; have h65:=Wp hr; have h66:=Ws hr; have h67:=Ww hr
 exact Jm (Q2Z (by decide) (Xl (k__law_shape.kn hr hG) (Yi (nmk 0) (X6))) (Q3D rfl (Xo (X8 (tgk 1 S.nd)) (Xo (X8 (tgk 2 S.nd)) (W4))))) (Jm (Y4 rfl (tgk 3 S.nd) (NV.ev (Q8v (k__law_model.kn hr hG) (Yi (nmk 0) (Jw (Jt 1) (Jw (Jt 2) (X6))))))) (Jm (Xy (Xl (k__law_laid.kn hr hG) (Jw (Jt 1) (Jw (Jt 2) (Jw (Jt 3) (Jw (NV.ev (Q8v (k__law_given.kn hr hG) (Yi (nmk 0) (Jw (Jt 3) (Jw (Jt 2) (X6)))))) (X6))))))) (X5)))
abbrev Q03:Stmt:=top 40
theorem Q0N:FnScope ["_law_deck_here", "_law_way", "_law_number_here", "_law_k"] ["_law_deck_here"] (defScope Q03):=⟨rfl,rfl,rfl,by decide +kernel,rfl,by decide +kernel,by decide +kernel⟩
def Q4F:List Sl → Option Out:=Ju (Ys 1 (Xb [] true X4 (kIo 0 (X1 (Jq (.int 8)) (Y0))))) (Ju (sIf (fun δ=>toB (f2 (bD ltD) (Jr 1) (Jq (.int 4)) δ)) (Ju (Yl (Xb [] true X4 (kIo 0 (X1 (Jq (.int 4)) (Y0))))) (Xt)) (Xt)) (Ju (sIf (fun δ=>toB (f2 (bD ltD) (Jr 1) (Jq (.int 6)) δ)) (Ju (Yl (f2 Z0 (Xb [] true X4 (kIo 0 (X1 (Jq (.int 120)) (Y0)))) (Jq (.int 10)))) (Xt)) (Xt)) (Ju (Ys 2 (Jq (.int 0))) (Ju (Q2R [3] (Zs (.nm 3) (Q1Y (Js (f2 Ye (W8 (Js (Jq (.int 2)) (Js (Jq (.int 6)) (Xf)))) (f2 Z0 (Jr 1) (Jq (.int 6)))) (Xf))) (Ju (Ys 2 (f2 Y8 (f2 Y6 (Jr 2) (f2 Kv (Jq (.int 10)) (Jq (.int 6)))) (Xb [] true X4 (kIo 0 (X1 (f2 Kv (Jq (.int 10)) (Jq (.int 6))) (Y0)))))) (Kk [3])))) (Ju (Yl (f2 Ye (W8 (Js (Jr 2) (Js (f2 Z0 (Jq (.int 0)) (Jr 2)) (Js (f2 Y8 (f2 Kv (Jq (.int 10)) (Jq (.int 39))) (Jr 2)) (Js (f2 Z0 (f2 Kv (Jq (.int 10)) (Jq (.int 40))) (Jq (.int 1))) (Js (f2 Z0 (Jq (.int 0)) (Jr 2)) (Js (f2 Z0 (Jq (.int 1)) (f2 Kv (Jq (.int 10)) (Jq (.int 40)))) (Xf)))))))) (Xb [] true X4 (kIo 0 (X1 (Jq (.int 6)) (Y0)))))) (Xt))))))
def Vl:List Sl → Option (D × List Sl):=fnF [true] 4 .n Q4F
theorem Q4n (T:Txt K mg) (k__law_draw:GK P w K mg base "_law_draw" 1 2 .n X4) {f:Addr} {fd:FuncData} (Fu:Fun K "_law_number" "_law_number" Q03 f fd) (m:mg "_law_number" = some (.ref f)):GK P w K mg base "_law_number" 2 1 .n Vl:=by
 refine ⟨f,fd,["_law_deck_here"],V0 Fu Q0N rfl (fun cd A out s G E hG hr=>?_),rfl,m,Fu.kp,Fu.binds fun _ _ _ _ _ _ us hl=>match us,hl with | [_],_=>rfl⟩
 have S:=Q0N; have h1:=hu1 hr; have h65:=Wp hr; have h66:=Ws hr; have h67:=Ww hr
 exact Jm (Y4 rfl (tgk 1 S.nd) (Xl (k__law_draw.kn hr hG) (Yi (nmk 0) (Jw (Jl) (X6))))) (Jm (Vy (Yg (Q68 h65).op Xr (Jt 1) (Jl)) (Jm (Xy (Xl (k__law_draw.kn hr hG) (Yi (nmk 0) (Jw (Jl) (X6))))) (X5)) (X5)) (Jm (Vy (Yg (Q68 h65).op Xr (Jt 1) (Jl)) (Jm (Xy (Jy op_sub Yr (Xl (k__law_draw.kn hr hG) (Yi (nmk 0) (Jw (Jl) (X6)))) (Jl))) (X5)) (X5)) (Jm (Y4 rfl (tgk 2 S.nd) (Jl)) (Jm (Zd rfl (Q08 (passes_of rfl) rfl (Z7 rfl T.m_range (Jn (Xw h1 (NV.ev (Yc (Jn (Jl) (Jn (Jl) (Jz))))) (Jy op_sub Yr (Jt 1) (Jl))) (Jz)) rfl (Q1r (Q2T))) (X8 (tgk 3 S.nd)) (by decide) (Jm (Y4 rfl (tgk 2 S.nd) (Jy X9 Xa (Jy Xh Xg (Jt 2) (Jy op_pow Q0d (Jl) (Jl))) (Xl (k__law_draw.kn hr hG) (Yi (nmk 0) (Jw (Jy op_pow Q0d (Jl) (Jl)) (X6)))))) (Vs rfl)))) (Jm (Xy (Xw h1 (NV.ev (Yc (Jn (Jt 2) (Jn (Jy op_sub Yr (Jl) (Jt 2)) (Jn (Jy X9 Xa (Jy op_pow Q0d (Jl) (Jl)) (Jt 2)) (Jn (Jy op_sub Yr (Jy op_pow Q0d (Jl) (Jl)) (Jl)) (Jn (Jy op_sub Yr (Jl) (Jt 2)) (Jn (Jy op_sub Yr (Jl) (Jy op_pow Q0d (Jl) (Jl))) (Jz))))))))) (Xl (k__law_draw.kn hr hG) (Yi (nmk 0) (Jw (Jl) (X6)))))) (X5))))))
abbrev Vm:Stmt:=top 41
theorem Zt:FnScope ["_law_deck_here", "_law_way", "_law_heads", "_law_blocks", "_law_cells", "_law_cell", "_law_k"] ["_law_deck_here"] (defScope Vm):=⟨rfl,rfl,rfl,by decide +kernel,rfl,by decide +kernel,by decide +kernel⟩
def Q2V:List Sl → Option Out:=Ju (Ys 1 (Xb [] true X4 (kIo 0 (X1 (Jq (.int 3)) (Y0))))) (Ju (Q3r (.cons (.nm 2) (.cons (.nm 3) (.cons (.nm 4) (.nil)))) (Xb [] true K5 (kIo 0 (Y0)))) (Ju (sIf (fun δ=>toB (f2 (bD eqD) (Jr 1) (Jq (.int 0)) δ)) (Ju (Yl (Ki (Js (Jr 2) (Js (Jr 3) (Js (fA (g1 Q7x) (Js (fLc (.nm 5) [5] (fIt (Jr 4)) (Q0h) (Xb [] true Vl (kIo 0 (Y0)))) (Xf))) (Xf)))))) (Xt)) (Xt)) (Ju (Zk 4 (fA (g1 Q4K) (Js (Jr 4) (Xf)))) (Ju (Q2R [6] (Zs (.nm 6) (Q1Y (Js (f2 Y6 (Jr 1) (Xb [] true X4 (kIo 0 (X1 (Jq (.int 12)) (Y0))))) (Xf))) (Ju (Q0l 4 (Xb [] true X4 (kIo 0 (X1 (fA (g1 Zq) (Js (fRd 4) (Xf))) (Y0)))) (Xb [] true Vl (kIo 0 (Y0)))) (Kk [6])))) (Ju (Yl (Ki (Js (Jr 2) (Js (Jr 3) (Js (fA (g1 Q7x) (Js (fRd 4) (Xf))) (Xf)))))) (Xt))))))
def Vd:List Sl → Option (D × List Sl):=fnF [true] 7 .n Q2V
theorem Q2p (T:Txt K mg) (k__law_draw:GK P w K mg base "_law_draw" 1 2 .n X4) (k__law_number:GK P w K mg base "_law_number" 2 1 .n Vl) (k__law_sound:GK P w K mg base "_law_sound" 5 1 .n K5) {f:Addr} {fd:FuncData} (Fu:Fun K "_law_any_store" "_law_any_store" Vm f fd) (m:mg "_law_any_store" = some (.ref f)):GK P w K mg base "_law_any_store" 6 1 .n Vd:=by
 refine ⟨f,fd,["_law_deck_here"],V0 Fu Zt rfl (fun cd A out s G E hG hr=>?_),rfl,m,Fu.kp,Fu.binds fun _ _ _ _ _ _ us hl=>match us,hl with | [_],_=>rfl⟩
 have S:=Zt; have h1:=hu1 hr; have h65:=Wp hr; have h66:=Ws hr; have h67:=Ww hr
 exact Jm (Y4 rfl (tgk 1 S.nd) (Xl (k__law_draw.kn hr hG) (Yi (nmk 0) (Jw (Jl) (X6))))) (Jm (Q2Z (by decide) (Xl (k__law_sound.kn hr hG) (Yi (nmk 0) (X6))) (Q3D rfl (Xo (X8 (tgk 2 S.nd)) (Xo (X8 (tgk 3 S.nd)) (Xo (X8 (tgk 4 S.nd)) (W4)))))) (Jm (Vy (Yg (Q0j h65).op Xr (Jt 1) (Jl)) (Jm (Xy (V8 (Jn (Jt 2) (Jn (Jt 3) (Jn (Vv (bnk T.m_tuple) Q2O Q2D (Jn (NV.ev (Q16 (own:=[("_law_cell",5)]) rfl S.nd (Vj (Jt 4)) (Wa (N:=["_law_deck_here", "_law_way", "_law_heads", "_law_blocks", "_law_cells", "_law_cell", "_law_k"]) (sc:=defScope Vm) (by decide +kernel)) (fun _ _ _ _ _=>X8 (tgk 5 S.nd)) (fun _ _ _ _ _=>Vo) (fun _ _ _ _ _=>Xl (k__law_number.kn hr hG) (Yi (nmk 0) (X6))))) (Jz))) (Jz)))))) (X5)) (X5)) (Jm (Q0b rfl (tgk 4 S.nd) (Q6f (bnk T.m_list) Q8g Q7V (Jn (Jt 4) (Jz)))) (Jm (Zd rfl (Q08 (passes_of rfl) rfl (Z7 rfl T.m_range (Jn (Jy Xh Xg (Jt 1) (Xl (k__law_draw.kn hr hG) (Yi (nmk 0) (Jw (Jl) (X6))))) (Jz)) rfl (Q1r (Q2T))) (X8 (tgk 6 S.nd)) (by decide) (Jm (Kh h1 (nmk 4) (Xl (k__law_draw.kn hr hG) (Yi (nmk 0) (Jw (Y1 (bnk T.m_len) Wf Wg (Jn (Yj 4) (Jz))) (X6)))) (Xl (k__law_number.kn hr hG) (Yi (nmk 0) (X6))) ⟨rfl,rfl,rfl,fun _=>rfl⟩) (Vs rfl)))) (Jm (Xy (V8 (Jn (Jt 2) (Jn (Jt 3) (Jn (Vv (bnk T.m_tuple) Q2O Q2D (Jn (Yj 4) (Jz))) (Jz)))))) (X5))))))
abbrev Zu:Stmt:=top 42
theorem Q2P:FnScope ["_law_store", "_law_heads", "_law_blocks", "_law_cells", "_law_rows", "_law_row", "_law_number_here"] ["_law_store"] (defScope Zu):=⟨rfl,rfl,rfl,by decide +kernel,rfl,by decide +kernel,by decide +kernel⟩
def Q6Q:List Sl → Option Out:=Ju (Q3r (.cons (.nm 1) (.cons (.nm 2) (.cons (.nm 3) (.nil)))) (Jr 0)) (Ju (Ys 4 (W8 (Js (W8 (Js (Jr 1) (Js (Jr 2) (Xf)))) (Js (f3 Q0I (Jr 3) (Q0O) (Vh (f2 Y6 (Jq (.int 7)) (Jr 1)))) (Js (f3 Q0I (Jr 3) (Vh (f2 Y6 (Jq (.int 7)) (Jr 1))) (Vh (f2 Y8 (f2 Y6 (Jq (.int 7)) (Jr 1)) (Jr 2)))) (Xf)))))) (Ju (Ys 4 (f2 Y8 (Jr 4) (W8 (Js (f3 Q0I (Jr 3) (Vh (f2 Y8 (f2 Y6 (Jq (.int 7)) (Jr 1)) (Jr 2))) (Vh (f2 Y8 (f2 Y6 (Jq (.int 7)) (Jr 1)) (f2 Y6 (Jq (.int 5)) (Jr 2))))) (Js (f3 Q0I (Jr 3) (Vh (f2 Y8 (f2 Y6 (Jq (.int 7)) (Jr 1)) (f2 Y6 (Jq (.int 5)) (Jr 2)))) (Q0O)) (Xf)))))) (Ju (Yl (f2 Q0H (Jq (.str "\n")) (fLc (.nm 5) [5] (fIt (Jr 4)) (Q0h) (f2 Q0H (Jq (.str " ")) (fLc (.nm 6) [6] (fIt (Jr 5)) (Q0h) (fA (g1 Q3s) (Js (Jr 6) (Xf)))))))) (Xt))))
def Kt:List Sl → Option (D × List Sl):=fnF [false] 7 .n Q6Q
theorem Q5x (T:Txt K mg)  {f:Addr} {fd:FuncData} (Fu:Fun K "_law_text" "_law_text" Zu f fd) (m:mg "_law_text" = some (.ref f)):GK P w K mg base "_law_text" 1 1 .n Kt:=by
 refine ⟨f,fd,["_law_store"],V0 Fu Q2P rfl (fun cd A out s G E hG hr=>?_),rfl,m,Fu.kp,Fu.binds fun _ _ _ _ _ _ us hl=>match us,hl with | [_],_=>rfl⟩
 have S:=Q2P; have h1:=hu1 hr; have h65:=Wp hr; have h66:=Ws hr; have h67:=Ww hr
 exact Jm (Q2Z (by decide) (Jt 0) (Q3D rfl (Xo (X8 (tgk 1 S.nd)) (Xo (X8 (tgk 2 S.nd)) (Xo (X8 (tgk 3 S.nd)) (W4)))))) (Jm (Y4 rfl (tgk 4 S.nd) (NV.ev (Yc (Jn (NV.ev (Yc (Jn (Jt 1) (Jn (Jt 2) (Jz))))) (Jn (V2 (Jt 3) (Ko) (Yu (Jy Xh Xg (Jl) (Jt 1)))) (Jn (V2 (Jt 3) (Yu (Jy Xh Xg (Jl) (Jt 1))) (Yu (Jy X9 Xa (Jy Xh Xg (Jl) (Jt 1)) (Jt 2)))) (Jz))))))) (Jm (Y4 rfl (tgk 4 S.nd) (Jy X9 Xa (Jt 4) (NV.ev (Yc (Jn (V2 (Jt 3) (Yu (Jy X9 Xa (Jy Xh Xg (Jl) (Jt 1)) (Jt 2))) (Yu (Jy X9 Xa (Jy Xh Xg (Jl) (Jt 1)) (Jy Xh Xg (Jl) (Jt 2))))) (Jn (V2 (Jt 3) (Yu (Jy X9 Xa (Jy Xh Xg (Jl) (Jt 1)) (Jy Xh Xg (Jl) (Jt 2)))) (Ko)) (Jz))))))) (Jm (Xy (Q3x (Q0D) (NV.ev (Q16 (own:=[("_law_row",5)]) rfl S.nd (Vj (Jt 4)) (Wa (N:=["_law_store", "_law_heads", "_law_blocks", "_law_cells", "_law_rows", "_law_row", "_law_number_here"]) (sc:=defScope Zu) (by decide +kernel)) (fun _ _ _ _ _=>X8 (tgk 5 S.nd)) (fun _ _ _ _ _=>Vo) (fun _ _ _ _ _=>Q3x (Q0D) (NV.ev (Q16 (own:=[("_law_number_here",6)]) rfl S.nd (Vj (Jt 5)) (Wa (N:=["_law_store", "_law_heads", "_law_blocks", "_law_cells", "_law_rows", "_law_row", "_law_number_here"]) rfl) (fun _ _ _ _ _=>X8 (tgk 6 S.nd)) (fun _ _ _ _ _=>Vo) (fun _ _ _ _ _=>Vv (bnk T.m_str) QaM QaK (Jn (Jt 6) (Jz)))))))))) (X5))))
abbrev Q0p:Stmt:=top 43
theorem Q1J:FnScope ["_law_store", "_law_text_here", "_law_shown", "_law_found"] ["_law_store"] (defScope Q0p):=⟨rfl,rfl,rfl,by decide +kernel,rfl,by decide +kernel,by decide +kernel⟩
def Q5U:List Sl → Option Out:=Ju (Ys 1 (Xb [] true Kt (X1 (Jr 0) (Y0)))) (Ju (Ys 2 (Xb [] true W0 (X1 (Jr 0) (Y0)))) (Ju (sIf (gOr (Q0t (fun δ=>toB ((f1 (Q65 "str") (Jr 2)) δ))) (fun δ=>toB (f2 (bD neD) (Jr 2) (Jr 1) δ))) (Ju (Yl (Jq (.bool false))) (Xt)) (Xt)) (Ju (Ys 3 (Xb [] true K1 (X1 (Jr 1) (Y0)))) (Ju (Yl (Q2Q (f1 (Q65 "tuple") (Jr 3)) (Q2Q (f2 (bD eqD) (fA (g1 Q3f) (Js (Jr 3) (Xf))) (fA (g1 Q3f) (Js (Jr 0) (Xf)))) (f2 (bD eqD) (Xb [] true W0 (X1 (Jr 3) (Y0))) (Jr 1))))) (Xt)))))
def K8:List Sl → Option (D × List Sl):=fnF [false] 4 .n Q5U
theorem Q4t (T:Txt K mg) (k__law_text:GK P w K mg base "_law_text" 1 1 .n Kt) (k_read_store:GK P w K mg base "read_store" 5 1 .n K1) (k_show_store:GK P w K mg base "show_store" 5 1 .n W0) {f:Addr} {fd:FuncData} (Fu:Fun K "_law_is_so" "_law_is_so" Q0p f fd) (m:mg "_law_is_so" = some (.ref f)):GK P w K mg base "_law_is_so" 6 1 .n K8:=by
 refine ⟨f,fd,["_law_store"],V0 Fu Q1J rfl (fun cd A out s G E hG hr=>?_),rfl,m,Fu.kp,Fu.binds fun _ _ _ _ _ _ us hl=>match us,hl with | [_],_=>rfl⟩
 have S:=Q1J; have h1:=hu1 hr; have h65:=Wp hr; have h66:=Ws hr; have h67:=Ww hr
 exact Jm (Y4 rfl (tgk 1 S.nd) (Xl (k__law_text.kn hr hG) (Jw (Jt 0) (X6)))) (Jm (Y4 rfl (tgk 2 S.nd) (Xl (k_show_store.kn hr hG) (Jw (Jt 0) (X6)))) (Jm (Vy (WV.tv (Q3n (Wu (Wy (Q25 (T := "str") rfl (bnk T.m_isinstance) (bnk T.m_str) (Jt 2)))) (Q30 (Yg (Q1b h65).op Xr (Jt 2) (Jt 1))))) (Jm (Xy (Q3h)) (X5)) (X5)) (Jm (Y4 rfl (tgk 3 S.nd) (Xl (k_read_store.kn hr hG) (Jw (Jt 1) (X6)))) (Jm (Xy (Q3B (Q25 (T := "tuple") rfl (bnk T.m_isinstance) (bnk T.m_tuple) (Jt 3)) (Q3B (Q0T (Q0j h65).op Xr (Y1 (bnk T.m_repr) (Q8d hG h66) Q7U (Jn (Jt 3) (Jz))) (Y1 (bnk T.m_repr) (Q8d hG h66) Q7U (Jn (Jt 0) (Jz)))) (Q3v (Q0T (Q0j h65).op Xr (Xl (k_show_store.kn hr hG) (Jw (Jt 3) (X6))) (Jt 1)))))) (X5)))))
abbrev Q1L:Stmt:=top 44
theorem QaW:FnScope ["_law_script", "_law_deck_here", "_law_stores", "_law_turn", "_law_far", "_law_store"] ["_law_script"] (defScope Q1L):=⟨rfl,rfl,rfl,by decide +kernel,rfl,by decide +kernel,by decide +kernel⟩
def Qef:List Sl → Option Out:=Ju (Q6r 1 0) (Ju (Zk 2 (fLc (.nm 3) [3] (Q1Y (Js (Jq (.int 4)) (Xf))) (Q0h) (Xb [] true Vd (kIo 1 (Y0))))) (Ju (Ys 4 (Xb [] true Yt (kIo 1 (X1 (W8 (Js (f2 Kv (Jq (.int 10)) (Jq (.int 39))) (Js (f2 Z0 (f2 Kv (Jq (.int 10)) (Jq (.int 40))) (Jq (.int 1))) (Js (f2 Z0 (Jq (.int 1)) (f2 Kv (Jq (.int 10)) (Jq (.int 40)))) (Js (f2 Z0 (Jq (.int 0)) (f2 Kv (Jq (.int 10)) (Jq (.int 39)))) (Js (Jq (.int 0)) (Xf))))))) (Y0))))) (Ju (Ys 2 (f2 Y8 (fRd 2) (W8 (Js (Ki (Js (Jq (.int 2)) (Js (Jq (.int 3)) (Js (f2 Y6 (Ki (Js (Jr 4) (Xf))) (Jq (.int 111))) (Xf))))) (Js (Ki (Js (Jq (.int 8)) (Js (Jq (.int 12)) (Js (f2 Y6 (Ki (Js (Jr 4) (Xf))) (Jq (.int 198))) (Xf))))) (Xf)))))) (Ju (Q2R [5] (Zs (.nm 5) (fIt (f2 Y8 (Jr 2) (f3 Q0I (Jr 2) (Q0O) (Vh (Jq (.int 2)))))) (Ju (sIf (Q0t (fun δ=>toB (Xb [] true K8 (X1 (Jr 5) (Y0)) δ))) (Ju (Yl (Jq (.bool false))) (Xt)) (Xt)) (Kk [5])))) (Ju (Yl (Jq (.bool true))) (Xt))))))
def φ_law:List Sl → Option (D × List Sl):=fnF [false] 6 .n Qef
theorem QcJ (T:Txt K mg) (k__law_any_store:GK P w K mg base "_law_any_store" 6 1 .n Vd) (k__law_deck:GKD P w K mg base "_law_deck" 1) (k__law_is_so:GK P w K mg base "_law_is_so" 6 1 .n K8) (k__law_pick:GK P w K mg base "_law_pick" 2 2 .n Yt) {f:Addr} {fd:FuncData} (Fu:Fun K "law" "law" Q1L f fd):FnG P w K mg base CX0 7 f fd ["_law_script"] (spF K 1 .n φ_law):=by
 refine V0 Fu QaW rfl fun cd A out s G E hG hr=>?_
 have S:=QaW; have h1:=hu1 hr; have h65:=Wp hr; have h66:=Ws hr; have h67:=Ww hr
 exact Jm (Qbt rfl (tgk 1 S.nd) (nmk 0) (k__law_deck.kn hr hG)) (Jm (Q89 (own:=[("_law_turn",3)]) rfl S.nd rfl rfl rfl (Z7 rfl T.m_range (Jn (Jl) (Jz)) rfl (Q1r (Q2T))) (Wa (N:=["_law_script", "_law_deck_here", "_law_stores", "_law_turn", "_law_far", "_law_store"]) (sc:=defScope Q1L) (by decide +kernel)) (fun _ _ _ _ _=>X8 (tgk 3 S.nd)) (fun _ _ _ _ _=>Vo) (fun _ _ _ _ _=>Xl (k__law_any_store.kn hr hG) (Yi (nmk 1) (X6))) (by intro _; rfl) (by decide) (by decide) rfl) (Jm (Y4 rfl (tgk 4 S.nd) (Xl (k__law_pick.kn hr hG) (Yi (nmk 1) (Jw (NV.ev (Yc (Jn (Jy op_pow Q0d (Jl) (Jl)) (Jn (Jy op_sub Yr (Jy op_pow Q0d (Jl) (Jl)) (Jl)) (Jn (Jy op_sub Yr (Jl) (Jy op_pow Q0d (Jl) (Jl))) (Jn (Jy op_sub Yr (Jl) (Jy op_pow Q0d (Jl) (Jl))) (Jn (Jl) (Jz)))))))) (X6))))) (Jm (Y4 rfl (tgk 2 S.nd) (Jy X9 Xa (Yj 2) (NV.ev (Yc (Jn (V8 (Jn (Jl) (Jn (Jl) (Jn (Jy Xh Xg (V8 (Jn (Jt 4) (Jz))) (Jl)) (Jz))))) (Jn (V8 (Jn (Jl) (Jn (Jl) (Jn (Jy Xh Xg (V8 (Jn (Jt 4) (Jz))) (Jl)) (Jz))))) (Jz))))))) (Jm (Zd rfl (Q08 (passes_of rfl) rfl (Vj (Jy X9 Xa (Jt 2) (V2 (Jt 2) (Ko) (Yu (Jl))))) (X8 (tgk 5 S.nd)) (by decide) (Jm (Vy (Wu (Wy (Xl (k__law_is_so.kn hr hG) (Jw (Jt 5) (X6))))) (Jm (Xy (Q3h)) (X5)) (X5)) (Vs rfl)))) (Jm (Xy (Q3h)) (X5))))))
end
end K04
namespace K04
open PySem PySem.Spec PyProof.Rows L2 Z
def Vk (thing:Int):Option Bool:=(some (true && (!false)))
theorem Q0X (thing:Int):∀ v,Vk thing = some v → V5 [.fz (Q0 thing)] = some ((Qg v),[.fz (Q0 thing)]):=by
 exact Kb (W9 (Q9u (Q6h (Jj 0 rfl) (rfl)) (QcU (Q6h (Jj 0 rfl) (rfl)))) rfl)
def W7 (heads:Int) (blocks:Int):Option Bool:=((((Vk heads)).bind fun r1=>if (!r1) then some true else (((Vk blocks)).map fun r2=>(!r2)))).bind fun b4=>if b4 then (some false) else (some ((decide (2 ≤ heads) && decide (heads ≤ 8)) && (decide (3 ≤ blocks) && decide (blocks ≤ 12))))
theorem Q42 (heads:Int) (blocks:Int):∀ v,W7 heads blocks = some v → We [.fz (Q0 heads),.fz (Q0 blocks)] = some ((Qg v),[.fz (Q0 heads),.fz (Q0 blocks)]):=by
 exact Kb (Q47 (Q7i (Q0L (Q24 (X3 (X0 (Jj 0 rfl) X7) (Q0X _ )) (fun _=>rfl))) (fun _=>rfl) (fun r1=>(Q22 (r':=fun (c3:Bool)=>(c3,[.fz (Q0 heads),.fz (Q0 blocks)])) (Q0L (Q24 (X3 (X0 (Jj 1 rfl) X7) (Q0X _ )) (fun _=>rfl))) (fun _=>rfl))) (fun _=>rfl)) (fun _=>rfl) (fun b4=>(Vi (W9 (Jk:VP _ _ (.bool false)) rfl))) (fun b4=>(K6 (W9 (Q9u (Q6V (Jk:VP _ _ (.int 2)) (Jj 0 rfl) (Jk:VP _ _ (.int 8)) (Q7C _ _) (Q7C _ _)) (Q6V (Jk:VP _ _ (.int 3)) (Jj 1 rfl) (Jk:VP _ _ (.int 12)) (Q7C _ _) (Q7C _ _))) rfl))))
def Vp (heads:Int) (blocks:Int):Option Int:=(Q04 (1 + 4) blocks).bind fun v1=>(some (((7 * heads) + v1) + 82))
theorem Q2f (heads:Int) (blocks:Int):∀ v,Vp heads blocks = some v → Va [.fz (Q0 heads),.fz (Q0 blocks)] = some ((Q0 v),[.fz (Q0 heads),.fz (Q0 blocks)]):=by
 exact Kb (Yn (Wj (Xe (Wj (V1 (Xj (Jk:VP _ _ (.int 7)) (Jj 0 rfl) (Y5 _ _ rfl)) (Xe (Y9 (q:=Q04 (1 + 4) blocks) (e:=Q0) (Xj (Jk:VP _ _ (.int 1)) (Jk:VP _ _ (.int 4)) (Xk _ _)) (Jj 1 rfl) (fun _ h=>Q3R _ _ _ h)) (fun v1=>Jp))) (fun v1=>g2x (Xk _ _))) (fun v1=>(Jo (Jk:VP _ _ (.int 82)) Jp))) (fun v1=>g2x (Xk _ _))) (fun _=>rfl))
def Q0q (thing:(Int × Int × (List Int))):Option Bool:=((if (!true) then some true else (if (!decide (3 = 3)) then some true else (((W7 thing.1 thing.2.1)).map fun r1=>(!r1))))).bind fun b5=>if b5 then (some false) else ((if (!true) then some true else (((Vp thing.1 thing.2.1)).map fun r7=>(!decide ((Wo thing.2.2) = r7))))).bind fun b9=>if b9 then (some false) else ((Wm thing.2.2 (mapM (fun x10=>(Vk x10)) thing.2.2))).bind fun l12=>(some (l12.all id))
theorem Q7c (thing:(Int × Int × (List Int))):∀ v,Q0q thing = some v → Zy [.fz ((eP3 Q0 Q0 (eTu Q0)) thing)] = some ((Qg v),[.fz ((eP3 Q0 Q0 (eTu Q0)) thing)]):=by
 exact Kb (X2 (δ':=[.fz (Yk thing),.no,.no]) (Q47 (Q5k (v:=true) (Q3J (Zo (Q6h (Jj 0 rfl) (rfl)))) (QaR (r':=fun (c4:Bool)=>(c4,[.fz (Yk thing),.no,.no])) (Q5k (v:=true) (Zo (Xj (Q0f (Jo (Jj 0 rfl) Jp) (rfl)) (Jk:VP _ _ (.int 3)) (Q43 gI _ _))) (Q22 (r':=fun (c2:Bool)=>(c2,[.fz (Yk thing),.no,.no])) (Q0L (Q24 (X3 (X0 (Xj (Jj 0 rfl) (Jk:VP _ _ (.int 0)) (Qbj _ _)) (X0 (Xj (Jj 0 rfl) (Jk:VP _ _ (.int 1)) (QaH _ _ _)) X7)) (Q42 _ _ )) (fun _=>rfl))) (fun _=>rfl)) rfl) (fun _=>rfl)) rfl) (fun _=>rfl) (fun b5=>(Vi (W9 (Jk:VP _ _ (.bool false)) rfl))) (fun b5=>(K6 (Q60 (Xj (Jj 0 rfl) (Jk:VP _ _ (.int 2)) (ixp2 _ _ _ _)) (X2 (δ':=[.fz (Yk thing),.fz ((eTu Q0) thing.2.2),.no]) (Q47 (Q5k (v:=true) (Q3J (Zo (Q6h (Jj 1 rfl) (rfl)))) (Q22 (r':=fun (c8:Bool)=>(c8,[.fz (Yk thing),.fz ((eTu Q0) thing.2.2),.no])) (Q24 (Wj (V1 (Q0f (Jo (Jj 1 rfl) Jp) (Qdc _)) (Xe (X3 (X0 (Xj (Jj 0 rfl) (Jk:VP _ _ (.int 0)) (Qbj _ _)) (X0 (Xj (Jj 0 rfl) (Jk:VP _ _ (.int 1)) (QaH _ _ _)) X7)) (Q2f _ _ )) (fun r7=>Jp))) (fun r7=>g2x (Q43 gI _ _))) (fun _=>rfl)) (fun _=>rfl)) rfl) (fun _=>rfl) (fun b9=>(Vi (W9 (Jk:VP _ _ (.bool false)) rfl))) (fun b9=>(K6 (Yn (Q7y (Xe (Q0s (e:=Q0) (e':=Qg) (Q3p (Jj 1 rfl) (Qct _)) (fun x10=>(Xv 2)) (fun x10=>(Q4L (X3 (X0 (Jj 2 rfl) X7) (Q0X _ )) (fun _=>rfl)))) (fun l12=>Jp)) (fun l12=>Qcy _)) (fun _=>rfl)))))))))))
def Zw (heads:Int):Option Int:=(some (7 * heads))
theorem Q3k (heads:Int):∀ v,Zw heads = some v → Vn [.fz (Q0 heads)] = some ((Q0 v),[.fz (Q0 heads)]):=by
 exact Kb (W9 (Xj (Jk:VP _ _ (.int 7)) (Jj 0 rfl) (Y5 _ _ rfl)) rfl)
def K2 (heads:Int) (blocks:Int):Option Int:=((Zw heads)).bind fun r1=>(some (r1 + blocks))
theorem Q1E (heads:Int) (blocks:Int):∀ v,K2 heads blocks = some v → Yz [.fz (Q0 heads),.fz (Q0 blocks)] = some ((Q0 v),[.fz (Q0 heads),.fz (Q0 blocks)]):=by
 exact Kb (Yn (Wj (Xe (X3 (X0 (Jj 0 rfl) X7) (Q3k _ )) (fun r1=>(Jo (Jj 1 rfl) Jp))) (fun r1=>g2x (Xk _ _))) (fun _=>rfl))
def Q14 (heads:Int) (blocks:Int):Option Int:=((K2 heads blocks)).bind fun r1=>(some (r1 + (4 * blocks)))
theorem Q6k (heads:Int) (blocks:Int):∀ v,Q14 heads blocks = some v → Kl [.fz (Q0 heads),.fz (Q0 blocks)] = some ((Q0 v),[.fz (Q0 heads),.fz (Q0 blocks)]):=by
 exact Kb (Yn (Wj (Xe (X3 (X0 (Jj 0 rfl) (X0 (Jj 1 rfl) X7)) (Q1E _ _ )) (fun r1=>(Jo (Xj (Jk:VP _ _ (.int 4)) (Jj 1 rfl) (Y5 _ _ rfl)) Jp))) (fun r1=>g2x (Xk _ _))) (fun _=>rfl))
def Z8 (heads:Int) (blocks:Int):Option (List (Int × Int)):=((((Zw heads)).bind fun r1=>((((K2 heads blocks)).bind fun r2=>((((Q14 heads blocks)).bind fun r3=>((Vp heads blocks)).map fun r4=>(r3,r4))).map fun b5=>(r2,b5))).map fun b6=>(r1,b6))).bind fun b7=>Q2u ([0,b7.1,b7.2.1,b7.2.2.1,b7.2.2.2]) fun ends_8=>(some (((Xi ends_8 none (some (-1)))).zip (Xi ends_8 (some 1) none)))
theorem Q4f (heads:Int) (blocks:Int):∀ v,Z8 heads blocks = some v → Wc [.fz (Q0 heads),.fz (Q0 blocks)] = some (((eLi (eP2 Q0 Q0)) v),[.fz (Q0 heads),.fz (Q0 blocks)]):=by
 exact Kb (Q2e (e:=Jx) (Q1I (z:=fun b7=>(Jx ([0,b7.1,b7.2.1,b7.2.2.1,b7.2.2.2]))) (Q7A (V1 (Jk:VP _ _ (.int 0)) (Q0G (X3 (X0 (Jj 0 rfl) X7) (Q3k _ )) (fun r1=>(Q0G (X3 (X0 (Jj 0 rfl) (X0 (Jj 1 rfl) X7)) (Q1E _ _ )) (fun r2=>(Q0G (X3 (X0 (Jj 0 rfl) (X0 (Jj 1 rfl) X7)) (Q6k _ _ )) (fun r3=>(Xe (X3 (X0 (Jj 0 rfl) (X0 (Jj 1 rfl) X7)) (Q2f _ _ )) (fun r4=>Jp)))))))))) (fun _=>rfl)) (fun _=>rfl) (fun b7 ends_8=>(W9 (Q0f (Jo (Q4o (Jj 2 rfl) Kr (Yy (Q6h (Jk:VP _ _ (.int 1)) (QdO _))) (Q4X _ _ _)) (Jo (Q4o (Jj 2 rfl) (Yy (Jk:VP _ _ (.int 1))) Kr (Q4X _ _ _)) Jp)) (Qc8 _ _ _ _)) rfl)))
def W6 (numbers:D):Option Str:=((((((Yw numbers)).bind fun v1=>(Wm v1 (mapM (fun x2=>(Q3s x2)) v1)).map fun v6=>(v1,v6))).bind fun l5=>(((Q0H (Q2 (" ":Str)) ((eLi eD) l5.2)).bind asS)).map fun v8=>(l5,v8))).bind fun b7=>(some b7.2)
theorem Q4i (numbers:D):∀ v,W6 numbers = some v → Kc [.fz numbers] = some ((Q2 v),[.fz numbers]):=by
 exact Kb (Yn (Zj (e:=fun _=>Q2) (V1 (Jk:VP _ _ (.str (" ":Str))) (Xe (Q1S (Q7v (q:=(Yw numbers)) (z:=fun v=>List.map eD v) (Jj 0 rfl) (fun _ h=>QaU _ _ h)) (fun v1=>(Q0s (e:=eD) (e':=eD) Za (fun x2=>(Xv 1)) (fun x2=>(Q4L (Q4g (q:=(Q3s x2)) (e:=eD) (Jo (Jj 1 rfl) Jp) (fun _ h=>h)) (fun _=>rfl)))))) (fun l5=>Jp))) (fun l5 _ h=>g2x (QdQ _ _ h))) (fun _=>rfl))
def Wl (store:(Int × Int × (List Int))):Option Str:=((W6 ((eLi Q0) ([store.1,store.2.1])))).bind fun r1=>((Z8 store.1 store.2.1)).bind fun r3=>(Q1a (fun x5 s4=>((((W6 ((eTu Q0) (Xi store.2.2 (some x5.1) (some x5.2))))).bind fun r6=>(Q5P s4 r6).map fun v8=>(r6,v8))).bind fun p7=>(some p7.2)) r3 [r1]).bind fun s4=>((Q4l ("\n":Str) s4)).bind fun v9=>(some v9)
theorem Q2B (store:(Int × Int × (List Int))):∀ v,Wl store = some v → W0 [.fz ((eP3 Q0 Q0 (eTu Q0)) store)] = some ((Q2 v),[.fz ((eP3 Q0 Q0 (eTu Q0)) store)]):=by
 exact Kb (X2 (δ':=[.fz (Yk store),.no,.no,.no,.no,.no,.no]) (QaC (Jj 0 rfl) (Zb (Xn (Xv 1) (Xn (Xv 2) (Xn (Xv 3) W3)))) (X2 (δ':=[.fz (Yk store),.fz (Q0 store.1),.fz (Q0 store.2.1),.fz ((eTu Q0) store.2.2),.no,.no,.no]) (Z2 (Q1I (z:=fun r1=>((eLi Q2) ([r1]))) (Q7A (Xe (X3 (X0 ((Yq (Jo (Jj 1 rfl) (Jo (Jj 2 rfl) Jp))):VP _ _ (Jx ([store.1,store.2.1]))) X7) (Q4i _ )) (fun r1=>Jp))) (fun _=>rfl)) (fun r1=>(Zl (X2 (δ':=[.fz (Yk store),.fz (Q0 store.1),.fz (Q0 store.2.1),.fz ((eTu Q0) store.2.2),.ow ((eLi Q2) ([r1])),.no,.no]) (Zz (Q5a (X3 (X0 (Jj 1 rfl) (X0 (Jj 2 rfl) X7)) (Q4f _ _ )) (fun _=>Q2y _)) (fun r3=>(Q0u (e:=(eP2 Q0 Q0)) (st:=fun s4=>[.fz (Yk store),.fz (Q0 store.1),.fz (Q0 store.2.1),.fz ((eTu Q0) store.2.2),.ow ((eLi Q2) s4),.no,.no]) (s0:=[r1]) Za (fun x5 s4=>(Zb (Xn (Xv 5) (Xn (Xv 6) W3)))) (fun x5 s4=>(X2 (δ':=[.fz (Yk store),.fz (Q0 store.1),.fz (Q0 store.2.1),.fz ((eTu Q0) store.2.2),.ow ((eLi Q2) s4),.fz (Q0 x5.1),.fz (Q0 x5.2)]) (Q5G (Qda 4 (e:=Q2) (X3 (X0 (Q4o (Jj 3 rfl) (Yy (Jj 5 rfl)) (Yy (Jj 6 rfl)) (Q6t _ _ _)) X7) (Q4i _ )) (fun _=>rfl)) (fun p7=>(Vf (v:=p7.2) rfl)))))  (fun s4=>(X2 (δ':=[.fz (Yk store),.fz (Q0 store.1),.fz (Q0 store.2.1),.fz ((eTu Q0) store.2.2),.ow ((eLi Q2) s4),.no,.no]) (Yn (Y9 (q:=(Q4l ("\n":Str) s4)) (e:=Q2) (Jk:VP _ _ (.str ("\n":Str))) (V4 4 rfl:VP _ _ ((eLi Q2) s4)) (fun _ h=>Q5z _ _ _ h)) (fun _=>rfl))))))))))))))
def V3 (word:Str):Option Int:=((Q5Z word none (some 1)).bind fun v2=>if (decide (v2 = ("-":Str))) then (Q5Z word (some 1) none).bind fun v4=>(some v4) else (some word)).bind fun s3=>(((((Q96 s3)).bind fun v6=>if (!(decide (1 ≤ v6) && decide (v6 ≤ 40))) then some true else (((Wm (chN s3) (mapM (fun x7=>(inD (Q2 x7) (Q2 ("0123456789":Str)))) (chN s3)))).map fun l9=>(!(l9.all id))))).bind fun b11=>if b11 then none else (some ())).bind fun s12=>(((((sIx s3 0)).bind fun v13=>if (decide (v13 = ("0":Str))) then (some (!decide (word = ("0":Str)))) else some false)).bind fun b15=>if b15 then none else (some ())).bind fun s16=>((Q3e word)).bind fun v17=>(some v17)
theorem Q6X (word:Str):∀ v,V3 word = some v → Kz [.fz (Q2 word)] = some ((Q0 v),[.fz (Q2 word)]):=by
 exact Kb (Q60 (Jj 0 rfl) (X2 (δ':=[.fz (Q2 word),.fz (Q2 word),.no]) (K3 (st:=fun s3=>[.fz (Q2 word),.fz (Q2 s3),.no]) (Q1l (Q24 (Wj (Xe (Qcf (q:=Q5Z word none (some 1)) (e:=Q2) (Jj 0 rfl) Kr (Yy (Jk:VP _ _ (.int 1))) (fun _ h=>Qco _ _ _ _ h)) (fun v2=>(Jo (Jk:VP _ _ (.str ("-":Str))) Jp))) (fun v2=>g2x (Q3P gS _ _))) (fun _=>rfl)) (fun _=>rfl) (fun v2=>(Yh (Qcf (q:=Q5Z word (some 1) none) (e:=Q2) (Jj 0 rfl) (Yy (Jk:VP _ _ (.int 1))) Kr (fun _ h=>Qco _ _ _ _ h)) (fun v4=>(Ke (v:=v4) rfl)))) (fun v2=>(Ke (v:=word) rfl))) (fun s3=>(X2 (δ':=[.fz (Q2 word),.fz (Q2 s3),.no]) (K3 (st:=fun s12=>[.fz (Q2 word),.fz (Q2 s3),.no]) (Q1l (Q7i (Q0L (Q24 (Qas (V1 (Jk:VP _ _ (.int 1)) (Xe (Q4g (q:=(Q96 s3)) (e:=Q0) (Jo (Jj 1 rfl) Jp) (fun _ h=>Qdh _ _ h)) (fun v6=>Jp))) (fun _=>rfl) (fun v6=>(Jk:VP _ _ (.int 40))) (fun _=>Q7C _ _) (fun _=>Q7C _ _)) (fun _=>rfl))) (fun _=>rfl) (fun v6=>(Q22 (r':=fun (c10:Bool)=>(c10,[.fz (Q2 word),.fz (Q2 s3),.no])) (Q0L (Q24 (Q7y (Xe (Q0s (e:=Q2) (e':=Qg) (Q3p (Jj 1 rfl) (QdF _)) (fun x7=>(Xv 2)) (fun x7=>(Q4L (Y9 (q:=(inD (Q2 x7) (Q2 ("0123456789":Str)))) (e:=Qg) (Jj 2 rfl) (Jk:VP _ _ (.str ("0123456789":Str))) (fun _ h=>QcP _ _ h)) (fun _=>rfl)))) (fun l9=>Jp)) (fun l9=>Qcy _)) (fun _=>rfl))) (fun _=>rfl))) (fun _=>rfl)) (fun _=>rfl) (fun b11=>Q1k) (fun b11=>(Ke (v:=()) rfl))) (fun s12=>(X2 (δ':=[.fz (Q2 word),.fz (Q2 s3),.no]) (K3 (st:=fun s16=>[.fz (Q2 word),.fz (Q2 s3),.no]) (Q1l (Qba (Q24 (Wj (Xe (Y9 (q:=(sIx s3 0)) (e:=Q2) (Jj 1 rfl) (Jk:VP _ _ (.int 0)) (fun _ h=>Qe1 _ _ _ h)) (fun v13=>(Jo (Jk:VP _ _ (.str ("0":Str))) Jp))) (fun v13=>g2x (Q3P gS _ _))) (fun _=>rfl)) (fun _=>rfl) (fun v13=>(Q9J (v:=(!decide (word = ("0":Str)))) (r':=fun (c14:Bool)=>(c14,[.fz (Q2 word),.fz (Q2 s3),.no])) (Zo (Xj (Jj 0 rfl) (Jk:VP _ _ (.str ("0":Str))) (Q43 gS _ _))) rfl)) (fun _=>rfl)) (fun _=>rfl) (fun b15=>Q1k) (fun b15=>(Ke (v:=()) rfl))) (fun s16=>(Yn (Q4g (q:=(Q3e word)) (e:=Q0) (Jo (Jj 0 rfl) Jp) (fun _ h=>Qbh _ _ h)) (fun _=>rfl))))))))))))
def Kw (text:Str):Option (Int × Int × (List Int)):=(if (!true) then none else (some ())).bind fun s1=>((((Q3N text ("\n":Str))).bind fun v2=>(Wm v2 (mapM (fun x3=>(((((Q3N x3 (" ":Str))).bind fun v4=>(Wm v4 (mapM (fun x5=>(V3 x5)) v4)).map fun v9=>(v4,v9))).map fun l8=>l8.2)) v2)).map fun v12=>(v2,v12))).bind fun l11=>(((if (!decide ((Wo l11.2) = 5)) then some true else (((atI l11.2 0)).bind fun v14=>if (!decide ((Wo v14) = 2)) then some true else (((((((((atI l11.2 0)).bind fun v15=>((atI v15 0)).map fun v17=>(v15,v17))).bind fun b16=>((((atI l11.2 0)).bind fun v18=>((atI v18 1)).map fun v20=>(v18,v20))).map fun b19=>(b16,b19))).bind fun b21=>(W7 b21.1.2 b21.2.2).map fun v23=>(b21,v23))).map fun r22=>(!r22.2))))).bind fun b27=>if b27 then none else (some ())).bind fun s28=>((atI l11.2 0)).bind fun v29=>(QbA v29).bind fun t30=>((((Z8 t30.1 t30.2)).bind fun r31=>(Q9p (fun x32=>(x32.2 - x32.1)) r31).map fun v35=>(r31,v35))).bind fun l34=>(((Q9p (fun x37=>(Wo x37)) (Xi l11.2 (some 1) none))).bind fun l38=>if (!decide (l38 = l34.2)) then none else (some ())).bind fun s39=>((((((((((((((atI l11.2 1)).bind fun v40=>((atI l11.2 2)).map fun v41=>(v40,v41))).bind fun b42=>(Q1v b42.1 b42.2).map fun v44=>(b42,v44))).bind fun b43=>((atI l11.2 3)).map fun v45=>(b43,v45))).bind fun b46=>(Q1v b46.1.2 b46.2).map fun v48=>(b46,v48))).bind fun b47=>((atI l11.2 4)).map fun v49=>(b47,v49))).bind fun b50=>(Q1v b50.1.2 b50.2).map fun v52=>(b50,v52))).bind fun b51=>Q2u (t30.1,t30.2,b51.2) fun found_53=>(((Q0q found_53)).bind fun r54=>if (!r54) then none else (some ())).bind fun s55=>(some found_53)
theorem Q5g (text:Str):∀ v,Kw text = some v → K1 [.fz (Q2 text)] = some (((eP3 Q0 Q0 (eTu Q0)) v),[.fz (Q2 text)]):=by
 exact Kb (X2 (δ':=[.fz (Q2 text),.no,.no,.no,.no,.no,.no,.no,.no,.no,.no]) (K3 (st:=fun s1=>[.fz (Q2 text),.no,.no,.no,.no,.no,.no,.no,.no,.no,.no]) (Q61 (Q3J (Zo (Q6h (Jj 0 rfl) (rfl)))) (X2 (δ':=[.fz (Q2 text),.no,.no,.no,.no,.no,.no,.no,.no,.no,.no]) Q1k) (Ke (v:=()) rfl)) (fun s1=>(X2 (δ':=[.fz (Q2 text),.no,.no,.no,.no,.no,.no,.no,.no,.no,.no]) (Z2 (Q1S (Q5a (Y9 (q:=(Q3N text ("\n":Str))) (e:=(eLi Q2)) (Jj 0 rfl) (Jk:VP _ _ (.str ("\n":Str))) (fun _ h=>Qao _ _ _ h)) (fun _=>Q2y _)) (fun v2=>(Q0s (e:=Q2) (e':=Jx) Za (fun x3=>(Xv 2)) (fun x3=>(Q06 (Q1S (Q5a (Y9 (q:=(Q3N x3 (" ":Str))) (e:=(eLi Q2)) (Jj 2 rfl) (Jk:VP _ _ (.str (" ":Str))) (fun _ h=>Qao _ _ _ h)) (fun _=>Q2y _)) (fun v4=>(Q0s (e:=Q2) (e':=Q0) Za (fun x5=>(Xv 3)) (fun x5=>(Q4L (X3 (X0 (Jj 3 rfl) X7) (Q6X _ )) (fun _=>rfl)))))) (fun _=>rfl)))))) (fun l11=>(X2 (δ':=[.fz (Q2 text),.ow ((eLi Jx) l11.2),.no,.no,.no,.no,.no,.no,.no,.no,.no]) (K3 (st:=fun s28=>[.fz (Q2 text),.ow ((eLi Jx) l11.2),.no,.no,.no,.no,.no,.no,.no,.no,.no]) (Q1l (Q5k (v:=true) (Zo (Xj (Q0f (Jo (V4 1 rfl:VP _ _ ((eLi Jx) l11.2)) Jp) (Q0c _)) (Jk:VP _ _ (.int 5)) (Q43 gI _ _))) (QaR (r':=fun (c26:Bool)=>(c26,[.fz (Q2 text),.ow ((eLi Jx) l11.2),.no,.no,.no,.no,.no,.no,.no,.no,.no])) (Q7i (Q24 (Wj (Xe (Q7y (Xe (Y9 (q:=(atI l11.2 0)) (e:=Jx) (V4 1 rfl:VP _ _ ((eLi Jx) l11.2)) (Jk:VP _ _ (.int 0)) (fun _ h=>Zf _ _ _ h)) (fun v14=>Jp)) (fun v14=>Q0c _)) (fun v14=>(Jo (Jk:VP _ _ (.int 2)) Jp))) (fun v14=>g2x (Q43 gI _ _))) (fun _=>rfl)) (fun _=>rfl) (fun v14=>(Q22 (r':=fun (c24:Bool)=>(c24,[.fz (Q2 text),.ow ((eLi Jx) l11.2),.no,.no,.no,.no,.no,.no,.no,.no,.no])) (Q0L (Q24 (Q18 (Q85 (Zj (e:=fun _=>Q0) (Xe (Y9 (q:=(atI l11.2 0)) (e:=Jx) (V4 1 rfl:VP _ _ ((eLi Jx) l11.2)) (Jk:VP _ _ (.int 0)) (fun _ h=>Zf _ _ _ h)) (fun v15=>(Jo (Jk:VP _ _ (.int 0)) Jp))) (fun v15 _ h=>g2x (Zf _ _ _ h))) (fun b16=>(Q6o (Zj (e:=fun _=>Q0) (Xe (Y9 (q:=(atI l11.2 0)) (e:=Jx) (V4 1 rfl:VP _ _ ((eLi Jx) l11.2)) (Jk:VP _ _ (.int 0)) (fun _ h=>Zf _ _ _ h)) (fun v18=>(Jo (Jk:VP _ _ (.int 1)) Jp))) (fun v18 _ h=>g2x (Zf _ _ _ h))) (fun b19=>X7)))) (fun b21=>Q42 b21.1.2 b21.2.2)) (fun _=>rfl))) (fun _=>rfl))) (fun _=>rfl)) (fun _=>rfl)) rfl) (fun _=>rfl) (fun b27=>(X2 (δ':=[.fz (Q2 text),.ow ((eLi Jx) l11.2),.no,.no,.no,.no,.no,.no,.no,.no,.no]) Q1k)) (fun b27=>(Ke (v:=()) rfl))) (fun s28=>(X2 (δ':=[.fz (Q2 text),.ow ((eLi Jx) l11.2),.no,.no,.no,.no,.no,.no,.no,.no,.no]) (QaL (δx:=fun v29 t30=>[.fz (Q2 text),.ow ((eLi Jx) l11.2),.no,.no,.fz (Q0 t30.1),.fz (Q0 t30.2),.no,.no,.no,.no,.no]) (ee:=Q0) (xs:=fun v29=>v29) (show VN _ _ ((atI l11.2 0)) _ from (Y9 (q:=(atI l11.2 0)) (e:=Jx) (V4 1 rfl:VP _ _ ((eLi Jx) l11.2)) (Jk:VP _ _ (.int 0)) (fun _ h=>Zf _ _ _ h))) (fun _=>rfl) (fun v29 t30=>(Xn (Xv 4) (Xn (Xv 5) W3))) (fun v29 t30=>(X2 (δ':=[.fz (Q2 text),.ow ((eLi Jx) l11.2),.no,.no,.fz (Q0 t30.1),.fz (Q0 t30.2),.no,.no,.no,.no,.no]) (Z2 (Q1S (Q5a (X3 (X0 (Jj 4 rfl) (X0 (Jj 5 rfl) X7)) (Q4f _ _ )) (fun _=>Q2y _)) (fun r31=>(Q9C (e:=(eP2 Q0 Q0)) (e':=Q0) Za (fun x32=>(Zb (Xn (Xv 7) (Xn (Xv 8) W3)))) (fun x32=>(Xj (Jj 8 rfl) (Jj 7 rfl) (Xz _ _)))))) (fun l34=>(X2 (δ':=[.fz (Q2 text),.ow ((eLi Jx) l11.2),.no,.no,.fz (Q0 t30.1),.fz (Q0 t30.2),.ow (Jx l34.2),.no,.no,.no,.no]) (K3 (st:=fun s39=>[.fz (Q2 text),.ow ((eLi Jx) l11.2),.no,.no,.fz (Q0 t30.1),.fz (Q0 t30.2),.ow (Jx l34.2),.no,.no,.no,.no]) (Q1l (Q24 (Wj (Xe (Q9C (e:=Jx) (e':=Q0) (Q3p (Q4o (V4 1 rfl:VP _ _ ((eLi Jx) l11.2)) (Yy (Jk:VP _ _ (.int 1))) Kr (Q4X _ _ _)) (Q2y _)) (fun x37=>(Xv 9)) (fun x37=>(Q0f (Jo (Jj 9 rfl) Jp) (Q0c _)))) (fun l38=>(Jo (V4 6 rfl:VP _ _ (Jx l34.2)) Jp))) (fun l38=>g2x (Q43 (gLi gI) _ _))) (fun _=>rfl)) (fun _=>rfl) (fun l38=>(X2 (δ':=[.fz (Q2 text),.ow ((eLi Jx) l11.2),.no,.no,.fz (Q0 t30.1),.fz (Q0 t30.2),.ow (Jx l34.2),.no,.no,.no,.no]) Q1k)) (fun l38=>(Ke (v:=()) rfl))) (fun s39=>(X2 (δ':=[.fz (Q2 text),.ow ((eLi Jx) l11.2),.no,.no,.fz (Q0 t30.1),.fz (Q0 t30.2),.ow (Jx l34.2),.no,.no,.no,.no]) (Q2e (e:=Yk) (Q1I (z:=fun b51=>(Yk (t30.1,t30.2,b51.2))) (Q35 (V1 (Jj 4 rfl) (V1 (Jj 5 rfl) (Xe (Q7y (Xe (Zj (e:=fun _=>Jx) (Q0G (Zj (e:=fun _=>Jx) (Q0G (Zj (e:=fun _=>Jx) (Q0G (Y9 (q:=(atI l11.2 1)) (e:=Jx) (V4 1 rfl:VP _ _ ((eLi Jx) l11.2)) (Jk:VP _ _ (.int 1)) (fun _ h=>Zf _ _ _ h)) (fun v40=>(Xe (Y9 (q:=(atI l11.2 2)) (e:=Jx) (V4 1 rfl:VP _ _ ((eLi Jx) l11.2)) (Jk:VP _ _ (.int 2)) (fun _ h=>Zf _ _ _ h)) (fun v41=>Jp)))) (fun b42 _ h=>g2x (Q0R _ _ _ h))) (fun b43=>(Xe (Y9 (q:=(atI l11.2 3)) (e:=Jx) (V4 1 rfl:VP _ _ ((eLi Jx) l11.2)) (Jk:VP _ _ (.int 3)) (fun _ h=>Zf _ _ _ h)) (fun v45=>Jp)))) (fun b46 _ h=>g2x (Q0R _ _ _ h))) (fun b47=>(Xe (Y9 (q:=(atI l11.2 4)) (e:=Jx) (V4 1 rfl:VP _ _ ((eLi Jx) l11.2)) (Jk:VP _ _ (.int 4)) (fun _ h=>Zf _ _ _ h)) (fun v49=>Jp)))) (fun b50 _ h=>g2x (Q0R _ _ _ h))) (fun b51=>Jp)) (fun b51=>Q5J _)) (fun b51=>Jp))))) (fun _=>rfl)) (fun _=>rfl) (fun b51 found_53=>(X2 (δ':=[.fz (Q2 text),.ow ((eLi Jx) l11.2),.no,.no,.fz (Q0 t30.1),.fz (Q0 t30.2),.ow (Jx l34.2),.no,.no,.no,.fz (Yk found_53)]) (K3 (st:=fun s55=>[.fz (Q2 text),.ow ((eLi Jx) l11.2),.no,.no,.fz (Q0 t30.1),.fz (Q0 t30.2),.ow (Jx l34.2),.no,.no,.no,.fz (Yk found_53)]) (Q1l (Q0L (Q24 (X3 (X0 (Jj 10 rfl) X7) (Q7c _ )) (fun _=>rfl))) (fun _=>rfl) (fun r54=>(X2 (δ':=[.fz (Q2 text),.ow ((eLi Jx) l11.2),.no,.no,.fz (Q0 t30.1),.fz (Q0 t30.2),.ow (Jx l34.2),.no,.no,.no,.fz (Yk found_53)]) Q1k)) (fun r54=>(Ke (v:=()) rfl))) (fun s55=>(X2 (δ':=[.fz (Q2 text),.ow ((eLi Jx) l11.2),.no,.no,.fz (Q0 t30.1),.fz (Q0 t30.2),.ow (Jx l34.2),.no,.no,.no,.fz (Yk found_53)]) (W9 (Jj 10 rfl) rfl))))))))))))))))))))))))))
theorem V7 (k:Dk) (M:Int):∀ v,V9 k M = some v → X4 [sDk k,.fz (.int M)] = some (.int v.1,[sDk v.2,.fz (.int M)]):=Qbe k M
def Zg (deck:Dk) (some_:(List Int)):Option (Int × Dk):=((((V9 deck (Wo some_))).bind fun r1=>((atI some_ r1.1)).map fun v3=>(r1,v3))).bind fun b2=>(some (b2.2,b2.1.2))
theorem Q2q (deck:Dk) (some_:(List Int)):∀ v,Zg deck some_ = some v → Yt [sDk deck,.fz ((eLi Q0) some_)] = some ((Q0 v.1),[sDk v.2,.fz ((eLi Q0) some_)]):=by
 exact Kb (Yn (Zj (e:=fun _=>Q0) (V1 (Jj 1 rfl) (Xe (X3 (Ym 0 (X0 (Q0f (Jo (Jj 1 rfl) Jp) (Q0c _)) X7)) (V7 _ _ )) (fun r1=>Jp))) (fun r1 _ h=>g2x (Zf _ _ _ h))) (fun _=>rfl))
def Q1q (deck:Dk):Option ((Int × Int) × Dk):=((V9 deck 8)).bind fun r1=>((((V9 r1.2 5)).bind fun r3=>((V9 r3.2 7)).map fun r4=>(r3,r4))).bind fun b5=>((atI ([((3 + b5.1.1),(4 + b5.2.1)),(8,12),(2,3)]) ((boI (decide (r1.1 = 5))) + (2 * (boI (decide (r1.1 = 3))))))).bind fun v6=>(some (v6,b5.2.2))
theorem Q8X (deck:Dk):∀ v,Q1q deck = some v → K7 [sDk deck] = some (((eP2 Q0 Q0) v.1),[sDk v.2]):=by
 exact Kb (Yh (X3 (Ym 0 (X0 (Jk:VP _ _ (.int 8)) X7)) (V7 _ _ )) (fun r1=>(Qa8 (a:=fun b5=>(Q0 (3 + b5.1.1))) (b:=fun b5=>(Q0 (4 + b5.2.1))) (Q0G (Wj (V1 (Jk:VP _ _ (.int 3)) (Xe (X3 (Ym 0 (X0 (Jk:VP _ _ (.int 5)) X7)) (V7 _ _ )) (fun r3=>Jp))) (fun r3=>g2x (Xk _ _))) (fun r3=>(Xe (Wj (V1 (Jk:VP _ _ (.int 4)) (Xe (X3 (Ym 0 (X0 (Jk:VP _ _ (.int 7)) X7)) (V7 _ _ )) (fun r4=>Jp))) (fun r4=>g2x (Xk _ _))) (fun r4=>Jp)))) (fun _=>rfl) (fun b5=>(Yn (Y9 (q:=(atI ([((3 + b5.1.1),(4 + b5.2.1)),(8,12),(2,3)]) ((boI (decide (r1.1 = 5))) + (2 * (boI (decide (r1.1 = 3))))))) (e:=(eP2 Q0 Q0)) ((Yq (Jo ((Wx (Jo (Jj 2 rfl) (Jo (Jj 3 rfl) Jp))):VP _ _ ((eP2 Q0 Q0) ((3 + b5.1.1),(4 + b5.2.1)))) (Jo ((Wx (Jo (Jk:VP _ _ (.int 8)) (Jo (Jk:VP _ _ (.int 12)) Jp))):VP _ _ ((eP2 Q0 Q0) (8,12))) (Jo ((Wx (Jo (Jk:VP _ _ (.int 2)) (Jo (Jk:VP _ _ (.int 3)) Jp))):VP _ _ ((eP2 Q0 Q0) (2,3))) Jp)))):VP _ _ ((eLi (eP2 Q0 Q0)) ([((3 + b5.1.1),(4 + b5.2.1)),(8,12),(2,3)]))) (Xj (Q0f (Jo (Xj (Jj 1 rfl) (Jk:VP _ _ (.int 5)) (Q3P gI _ _)) Jp) (QaY _)) (Xj (Jk:VP _ _ (.int 2)) (Q0f (Jo (Xj (Jj 1 rfl) (Jk:VP _ _ (.int 3)) (Q3P gI _ _)) Jp) (QaY _)) (Y5 _ _ rfl)) (Xk _ _)) (fun _ h=>Zf _ _ _ h)) (fun _=>rfl))))))
def Wb (kind:Int) (Xu:(List D)):Option Int:=(Q04 kind (Wo Xu)).bind fun v1=>(some ((v1 + 3) / 4))
theorem Q1i (kind:Int) (Xu:(List D)):∀ v,Wb kind Xu = some v → Yb [.fz (Q0 kind),.fz ((eLi eD) Xu)] = some ((Q0 v),[.fz (Q0 kind),.fz ((eLi eD) Xu)]):=by
 exact Kb (Yn (Wj (Xe (Wj (Xe (Y9 (q:=Q04 kind (Wo Xu)) (e:=Q0) (Jj 0 rfl) (Q0f (Jo (Jj 1 rfl) Jp) (Q0c _)) (fun _ h=>Q3R _ _ _ h)) (fun v1=>(Jo (Jk:VP _ _ (.int 3)) Jp))) (fun v1=>g2x (Xk _ _))) (fun v1=>(Jo (Jk:VP _ _ (.int 4)) Jp))) (fun v1=>g2x (Q1f _ _ (by decide) (by decide)))) (fun _=>rfl))
def Q0k (model:(List (Int × (Int × (List D))))) (blocks:Int):Option Int:=((Wm (model.map (·.1)) (Q2K (fun x1=>(some (!decide (x1 = 2)))) (fun x1=>(((((((Ve model x1)).bind fun v2=>((Ve model x1)).map fun v3=>(v2,v3))).bind fun b4=>(Wb b4.1.1 b4.2.2).map fun v6=>(b4,v6))).map fun r5=>r5.2)) (model.map (·.1))))).bind fun l7=>(some ((blocks - 3) - l7.sum))
theorem Q6U (model:(List (Int × (Int × (List D))))) (blocks:Int):∀ v,Q0k model blocks = some v → Vq [.fz ((eDi Q0 (eP2 Q0 (eLi eD))) model),.fz (Q0 blocks)] = some ((Q0 v),[.fz ((eDi Q0 (eP2 Q0 (eLi eD))) model),.fz (Q0 blocks)]):=by
 exact Kb (Yn (Wj (V1 (Xj (Jj 1 rfl) (Jk:VP _ _ (.int 3)) (Xz _ _)) (Xe (Q7y (Xe (Q7p (e:=Q0) (e':=Q0) (Q3p (Jj 0 rfl) (Qci _)) (fun x1=>(Xv 2)) (fun x1=>(Q9J (v:=(!decide (x1 = 2))) (Zo (Xj (Jj 2 rfl) (Jk:VP _ _ (.int 2)) (Q43 gI _ _))) rfl)) (fun x1=>(Q06 (Q18 (Q85 (Wj (Xe (Y9 (q:=(Ve model x1)) (e:=(eP2 Q0 (eLi eD))) (Jj 0 rfl) (Jj 2 rfl) (fun _ h=>Q3m kgI _ _ _ h)) (fun v2=>(Jo (Jk:VP _ _ (.int 0)) Jp))) (fun v2=>g2x (Qbj _ _))) (fun v2=>(Q6o (Wj (Xe (Y9 (q:=(Ve model x1)) (e:=(eP2 Q0 (eLi eD))) (Jj 0 rfl) (Jj 2 rfl) (fun _ h=>Q3m kgI _ _ _ h)) (fun v3=>(Jo (Jk:VP _ _ (.int 1)) Jp))) (fun v3=>g2x (QaH _ _ _))) (fun v3=>X7)))) (fun b4=>Q1i b4.1.1 b4.2.2)) (fun _=>rfl)))) (fun l7=>Jp)) (fun l7=>Qce _)) (fun l7=>Jp))) (fun l7=>g2x (Xz _ _))) (fun _=>rfl))
def Z6 (model:(List (Int × (Int × (List D))))) (blocks:Int) (folder:Int) (name:Int) (head:Int):Option (Bool × (List (Int × (Int × (List D))))):=((Ve model folder)).bind fun v1=>(((Q1v v1.2 ([((eP2 Q0 Q0) (name,head))])).bind fun v2=>((Q4d v2)).map fun v4=>(v2,v4))).bind fun b3=>((((((Wb 2 b3.2)).bind fun r6=>((Wb 2 v1.2)).map fun r7=>(r6,r7))).bind fun b8=>((Q0k model blocks)).map fun r9=>(b8,r9))).bind fun b10=>Q2u (decide ((b10.1.1 - b10.1.2) ≤ b10.2)) fun room_11=>((if (decide ((Wo v1.2) < 6)) then (if room_11 then (((((Wm v1.2 (Q2K (fun x12=>(((((Ye x12 (Q0 0))).bind fun v13=>((eqD v13 (Q0 name))).map fun v15=>(v13,v15))).map fun b14=>b14.2)) (fun x12=>(some x12)) v1.2))).bind fun l16=>((eqD ((eLi eD) l16) ((eLi eD) ([])))).map fun v18=>(l16,v18))).map fun b17=>b17.2) else some false) else some false)).bind fun b22=>if b22 then (Q2z model folder (2,b3.2)).bind fun u23=>(some (true,u23)) else (some (false,model))
theorem Q50 (model:(List (Int × (Int × (List D))))) (blocks:Int) (folder:Int) (name:Int) (head:Int):∀ v,Z6 model blocks folder name head = some v → Vx [.ow ((eDi Q0 (eP2 Q0 (eLi eD))) model),.fz (Q0 blocks),.fz (Q0 folder),.fz (Q0 name),.fz (Q0 head)] = some ((Qg v.1),[.ow ((eDi Q0 (eP2 Q0 (eLi eD))) v.2),.fz (Q0 blocks),.fz (Q0 folder),.fz (Q0 name),.fz (Q0 head)]):=by
 exact Kb (X2 (δ':=[.ow (Xq model),.fz (Q0 blocks),.fz (Q0 folder),.fz (Q0 name),.fz (Q0 head),.no,.no,.no,.no,.no]) (Q3t (Q7Q 0 (Y9 (q:=(Ve model folder)) (e:=(eP2 Q0 (eLi eD))) (Q5I 0 rfl:VP _ _ (Xq model)) (Jj 2 rfl) (fun _ h=>Q3m kgI _ _ _ h)) rfl (fun _=>rfl)) (fun v1=>(Zb (Xn (Xv 5) (Xn (Xv 6) W3)))) (fun v1=>(X2 (δ':=[.ow (Xq model),.fz (Q0 blocks),.fz (Q0 folder),.fz (Q0 name),.fz (Q0 head),.fz (Q0 v1.1),.fz ((eLi eD) v1.2),.no,.no,.no]) (Yh (Q9q (e:=fun _=>(eLi eD)) (Xe (Y9 (q:=Q1v v1.2 ([((eP2 Q0 Q0) (name,head))])) (e:=(eLi eD)) (Jj 6 rfl) ((Yq (Jo ((Wx (Jo (Jj 3 rfl) (Jo (Jj 4 rfl) Jp))):VP _ _ ((eP2 Q0 Q0) (name,head))) Jp)):VP _ _ ((eLi eD) ([((eP2 Q0 Q0) (name,head))]))) (fun _ h=>Q0R _ _ _ h)) (fun v2=>Jp)) (fun v2 _ h=>Q7W _ _ h)) (fun b3=>(X2 (δ':=[.ow (Xq model),.fz (Q0 blocks),.fz (Q0 folder),.fz (Q0 name),.fz (Q0 head),.fz (Q0 v1.1),.fz ((eLi eD) v1.2),.fz ((eLi eD) b3.2),.no,.no]) (Q2e (e:=Qg) (Wj (Q0G (Wj (Q0G (X3 (X0 (Jk:VP _ _ (.int 2)) (X0 (Jj 7 rfl) X7)) (Q1i _ _ )) (fun r6=>(Xe (X3 (X0 (Jk:VP _ _ (.int 2)) (X0 (Jj 6 rfl) X7)) (Q1i _ _ )) (fun r7=>Jp)))) (fun b8=>g2x (Xz _ _))) (fun b8=>(Xe (Q7Q 0 (X3 (X0 (Q5I 0 rfl:VP _ _ (Xq model)) (X0 (Jj 1 rfl) X7)) (Q6U _ _ )) rfl (fun _=>rfl)) (fun r9=>Jp)))) (fun b10=>g2x (Q7C _ _))) (fun _=>rfl) (fun b10 room_11=>(X2 (δ':=[.ow (Xq model),.fz (Q0 blocks),.fz (Q0 folder),.fz (Q0 name),.fz (Q0 head),.fz (Q0 v1.1),.fz ((eLi eD) v1.2),.fz ((eLi eD) b3.2),.fz (Qg room_11),.no]) (Q47 (Q8l (v:=false) (Zo (Xj (Q0f (Jo (Jj 6 rfl) Jp) (Q0c _)) (Jk:VP _ _ (.int 6)) (QaB _ _))) (QaR (r':=fun (c21:Bool)=>(c21,[.ow (Xq model),.fz (Q0 blocks),.fz (Q0 folder),.fz (Q0 name),.fz (Q0 head),.fz (Q0 v1.1),.fz ((eLi eD) v1.2),.fz ((eLi eD) b3.2),.fz (Qg room_11),.no])) (Q8l (v:=false) (Zo (Jj 8 rfl)) (Q22 (r':=fun (c19:Bool)=>(c19,[.ow (Xq model),.fz (Q0 blocks),.fz (Q0 folder),.fz (Q0 name),.fz (Q0 head),.fz (Q0 v1.1),.fz ((eLi eD) v1.2),.fz ((eLi eD) b3.2),.fz (Qg room_11),.no])) (Q24 (Zj (e:=fun _=>Qg) (Xe (Q7p (e:=eD) (e':=eD) (Q3p (Jj 6 rfl) (Q2y _)) (fun x12=>(Xv 9)) (fun x12=>(Q22 (Q24 (Zj (e:=fun _=>Qg) (Xe (Y9 (q:=(Ye x12 (Q0 0))) (e:=eD) (Jj 9 rfl) (Jk:VP _ _ (.int 0)) (fun _ h=>h)) (fun v13=>(Jo (Jj 3 rfl) Jp))) (fun v13 _ h=>g2x (QcP _ _ h))) (fun _=>rfl)) (fun _=>rfl))) (fun x12=>(Qcm (v:=x12) (Jj 9 rfl) rfl))) (fun l16=>(Jo ((Yq Jp):VP _ _ ((eLi eD) ([]))) Jp))) (fun l16 _ h=>g2x (QcP _ _ h))) (fun _=>rfl)) (fun _=>rfl)) rfl) (fun _=>rfl)) rfl) (fun _=>rfl) (fun b22=>(Vi (X2 (δ':=[.ow (Xq model),.fz (Q0 blocks),.fz (Q0 folder),.fz (Q0 name),.fz (Q0 head),.fz (Q0 v1.1),.fz ((eLi eD) v1.2),.fz ((eLi eD) b3.2),.fz (Qg room_11),.no]) (Q23 (q:=(Q2z model folder (2,b3.2))) (e:=Xq) ((Wx (Jo (Jk:VP _ _ (.int 2)) (Jo (Jj 7 rfl) Jp))):VP _ _ ((eP2 Q0 (eLi eD)) (2,b3.2))) (Jj 2 rfl) rfl (fun _ h=>Q5C (e':=(eP2 Q0 (eLi eD))) kgI _ _ _ _ h) (fun u23=>(Vi (X2 (δ':=[.ow (Xq u23),.fz (Q0 blocks),.fz (Q0 folder),.fz (Q0 name),.fz (Q0 head),.fz (Q0 v1.1),.fz ((eLi eD) v1.2),.fz ((eLi eD) b3.2),.fz (Qg room_11),.no]) (W9 (Jk:VP _ _ (.bool true)) rfl)))))))) (fun b22=>(K6 (X2 (δ':=[.ow (Xq model),.fz (Q0 blocks),.fz (Q0 folder),.fz (Q0 name),.fz (Q0 head),.fz (Q0 v1.1),.fz ((eLi eD) v1.2),.fz ((eLi eD) b3.2),.fz (Qg room_11),.no]) (W9 (Jk:VP _ _ (.bool false)) rfl)))))))))))))))
def Q1g (deck:Dk) (heads:Int) (blocks:Int):Option ((List (Int × (Int × (List D)))) × Dk):=Q2u ([(1,(2,[])),(2,(2,[]))]) fun model_1=>((rgQ 3 (heads + 1))).bind fun v3=>(Q1Q (fun s5=>(some (!decide (s5.2.2.2 = ([]))))) (fun s5=>((((V9 s5.1 (Wo s5.2.2.2))).bind fun r6=>(Q2Y s5.2.2.2 r6.1).map fun v8=>(r6,v8))).bind fun p7=>((V9 p7.1.2 6)).bind fun r10=>((Zg r10.2 ([1,1,2,3]))).bind fun r12=>((Zg r12.2 s5.2.2.1)).bind fun r14=>if (decide (r10.1 = 0)) then (some (r14.2,s5.2.1,s5.2.2.1,p7.2.2)) else ((((((V9 r14.2 13)).bind fun r16=>(Q4H r16.1).map fun v18=>(r16,v18))).bind fun b17=>(Wm b17.2 (Q4s (fun x22 s21=>(((V9 s21 100)).map fun r23=>(r23.1,r23.2))) b17.2 b17.1.2)).map fun v25=>(b17,v25))).bind fun l24=>((if (decide (r10.1 < 3)) then (some (2,[])) else (((Q0k s5.2.1 blocks)).map fun r27=>(1,(List.map Q0 (Xi l24.2.1 none (some (4 * r27)))))))).bind fun b30=>(Q2z s5.2.1 p7.2.1 b30).bind fun u31=>((V9 l24.2.2 99)).bind fun r32=>Q2u (1 + r32.1) fun name_33=>((if (!decide (r10.1 = 5)) then (((Z6 u31 blocks r14.1 name_33 p7.2.1)).map fun r34=>(r34.1,r34.2)) else some (false,u31))).bind fun b36=>(if (!b36.1) then ((((((Ve b36.2 2)).bind fun v39=>(Q1v v39.2 ([((eP2 Q0 Q0) (p7.2.1,p7.2.1))])).map fun v41=>(v39,v41))).bind fun b40=>((Q4d b40.2)).map fun v43=>(b40,v43))).bind fun b42=>(Q2z b36.2 2 (2,b42.2)).bind fun u44=>(some u44) else (some b36.2)).bind fun s38=>(((Q04 (r12.1 - 1) (boI (decide (2 < r10.1)))).bind fun v45=>(Q4H v45).map fun v47=>(v45,v47))).bind fun b46=>(Q1a (fun x49 s48=>((((((Zg s48.1 s5.2.2.1)).bind fun r50=>((V9 r50.2 99)).map fun r51=>(r50,r51))).bind fun b52=>(Z6 s48.2 blocks b52.1.1 (1 + b52.2.1) p7.2.1).map fun v54=>(b52,v54))).bind fun r53=>(some (r53.1.2.2,r53.2.2))) b46.2 (r32.2,s38)).bind fun s48=>(if (decide (r10.1 < 3)) then ((Q5P s5.2.2.1 p7.2.1)).bind fun p56=>(some p56) else (some s5.2.2.1)).bind fun s55=>(some (s48.1,s48.2,s55,p7.2.2))) 100 (deck,model_1,[1],v3)).bind fun s5=>(some (s5.2.1,s5.1))
theorem Q8L (deck:Dk) (heads:Int) (blocks:Int):∀ v,Q1g deck heads blocks = some v → K4 [sDk deck,.fz (Q0 heads),.fz (Q0 blocks)] = some (((eDi Q0 (eP2 Q0 (eLi eD))) v.1),[sDk v.2,.fz (Q0 heads),.fz (Q0 blocks)]):=by
 exact Kb (X2 (δ':=[sDk deck,.fz (Q0 heads),.fz (Q0 blocks),.no,.no,.no,.no,.no,.no,.no,.no,.no,.no,.no]) (Q8f (e:=Xq) (v:=[(1,(2,[])),(2,(2,[]))]) (Q8w (Q5m (Jk:VP _ _ (.int 1)) ((Wx (Jo (Jk:VP _ _ (.int 2)) (Jo ((Yq Jp):VP _ _ ((eLi eD) ([]))) Jp))):VP _ _ ((eP2 Q0 (eLi eD)) (2,[]))) (Q5m (Jk:VP _ _ (.int 2)) ((Wx (Jo (Jk:VP _ _ (.int 2)) (Jo ((Yq Jp):VP _ _ ((eLi eD) ([]))) Jp))):VP _ _ ((eP2 Q0 (eLi eD)) (2,[]))) Q9X)) rfl:VP _ _ (Xq [(1,(2,[])),(2,(2,[]))])) (fun model_1=>(X2 (δ':=[sDk deck,.fz (Q0 heads),.fz (Q0 blocks),.ow (Xq model_1),.no,.no,.no,.no,.no,.no,.no,.no,.no,.no]) (Q7M ((Yq (Jo (Jk:VP _ _ (.int 1)) Jp)):VP _ _ (Jx ([1]))) (X2 (δ':=[sDk deck,.fz (Q0 heads),.fz (Q0 blocks),.ow (Xq model_1),.ow (Jx ([1])),.no,.no,.no,.no,.no,.no,.no,.no,.no]) (Z2 (Y9 (q:=(rgQ 3 (heads + 1))) (e:=Jx) (Jk:VP _ _ (.int 3)) (Xj (Jj 1 rfl) (Jk:VP _ _ (.int 1)) (Xk _ _)) (fun _ h=>Qe4 _ _ _ h)) (fun v3=>(Zl (X2 (δ':=[sDk deck,.fz (Q0 heads),.fz (Q0 blocks),.ow (Xq model_1),.ow (Jx ([1])),.ow (Jx v3),.no,.no,.no,.no,.no,.no,.no,.no]) (Q9t (st:=fun s5=>[sDk s5.1,.fz (Q0 heads),.fz (Q0 blocks),.ow (Xq s5.2.1),.ow (Jx s5.2.2.1),.ow (Jx s5.2.2.2),.no,.no,.no,.no,.no,.no,.no,.no]) (s0:=(deck,model_1,[1],v3)) (fun s5=>(Q9J (v:=(!decide (s5.2.2.2 = ([])))) (Zo (Xj (V4 5 rfl:VP _ _ (Jx s5.2.2.2)) ((Yq Jp):VP _ _ (Jx ([]))) (Q43 (gLi gI) _ _))) rfl)) (fun s5=>(X2 (δ':=[sDk s5.1,.fz (Q0 heads),.fz (Q0 blocks),.ow (Xq s5.2.1),.ow (Jx s5.2.2.1),.ow (Jx s5.2.2.2),.no,.no,.no,.no,.no,.no,.no,.no]) (Yh (Q6H 5 (e:=Q0) (X3 (Ym 0 (X0 (Q0f (Jo (V4 5 rfl:VP _ _ (Jx s5.2.2.2)) Jp) (Q0c _)) X7)) (V7 _ _ )) (fun _=>rfl)) (fun p7=>(X2 (δ':=[sDk p7.1.2,.fz (Q0 heads),.fz (Q0 blocks),.ow (Xq s5.2.1),.ow (Jx s5.2.2.1),.ow (Jx p7.2.2),.fz (Q0 p7.2.1),.no,.no,.no,.no,.no,.no,.no]) (Yh (X3 (Ym 0 (X0 (Jk:VP _ _ (.int 6)) X7)) (V7 _ _ )) (fun r10=>(X2 (δ':=[sDk r10.2,.fz (Q0 heads),.fz (Q0 blocks),.ow (Xq s5.2.1),.ow (Jx s5.2.2.1),.ow (Jx p7.2.2),.fz (Q0 p7.2.1),.fz (Q0 r10.1),.no,.no,.no,.no,.no,.no]) (Yh (X3 (Ym 0 (X0 ((Yq (Jo (Jk:VP _ _ (.int 1)) (Jo (Jk:VP _ _ (.int 1)) (Jo (Jk:VP _ _ (.int 2)) (Jo (Jk:VP _ _ (.int 3)) Jp))))):VP _ _ (Jx ([1,1,2,3]))) X7)) (Q2q _ _ )) (fun r12=>(X2 (δ':=[sDk r12.2,.fz (Q0 heads),.fz (Q0 blocks),.ow (Xq s5.2.1),.ow (Jx s5.2.2.1),.ow (Jx p7.2.2),.fz (Q0 p7.2.1),.fz (Q0 r10.1),.fz (Q0 r12.1),.no,.no,.no,.no,.no]) (Yh (X3 (Ym 0 (X0 (V4 4 rfl:VP _ _ (Jx s5.2.2.1)) X7)) (Q2q _ _ )) (fun r14=>(X2 (δ':=[sDk r14.2,.fz (Q0 heads),.fz (Q0 blocks),.ow (Xq s5.2.1),.ow (Jx s5.2.2.1),.ow (Jx p7.2.2),.fz (Q0 p7.2.1),.fz (Q0 r10.1),.fz (Q0 r12.1),.fz (Q0 r14.1),.no,.no,.no,.no]) (Q6q (Zo (Xj (Jj 7 rfl) (Jk:VP _ _ (.int 0)) (Q3P gI _ _))) (Vi (Qb4 (v:=(r14.2,s5.2.1,s5.2.2.1,p7.2.2)) rfl)) (K6 (X2 (δ':=[sDk r14.2,.fz (Q0 heads),.fz (Q0 blocks),.ow (Xq s5.2.1),.ow (Jx s5.2.2.1),.ow (Jx p7.2.2),.fz (Q0 p7.2.1),.fz (Q0 r10.1),.fz (Q0 r12.1),.fz (Q0 r14.1),.no,.no,.no,.no]) (Z2 (Q1S (Q2b  (Xe (X3 (Ym 0 (X0 (Jk:VP _ _ (.int 13)) X7)) (V7 _ _ )) (fun r16=>Jp)) (fun _=>rfl)) (fun b17=>(Q3w (e:=Q0) (e':=Q0) (st:=fun s21=>[sDk s21,.fz (Q0 heads),.fz (Q0 blocks),.ow (Xq s5.2.1),.ow (Jx s5.2.2.1),.ow (Jx p7.2.2),.fz (Q0 p7.2.1),.fz (Q0 r10.1),.fz (Q0 r12.1),.fz (Q0 r14.1),.no,.no,.no,.no]) (s0:=b17.1.2) (δb:=fun x22 s21=>[sDk s21,.fz (Q0 heads),.fz (Q0 blocks),.ow (Xq s5.2.1),.ow (Jx s5.2.2.1),.ow (Jx p7.2.2),.fz (Q0 p7.2.1),.fz (Q0 r10.1),.fz (Q0 r12.1),.fz (Q0 r14.1),.no,.no,.no,.fz (Q0 x22)]) Za (fun x22 s21=>(Xv 13)) (fun x22 s21=>(Q06 (X3 (Ym 0 (X0 (Jk:VP _ _ (.int 100)) X7)) (V7 _ _ )) (fun _=>rfl)))))) (fun l24=>(X2 (δ':=[sDk l24.2.2,.fz (Q0 heads),.fz (Q0 blocks),.ow (Xq s5.2.1),.ow (Jx s5.2.2.1),.ow (Jx p7.2.2),.fz (Q0 p7.2.1),.fz (Q0 r10.1),.fz (Q0 r12.1),.fz (Q0 r14.1),.ow (Jx l24.2.1),.no,.no,.no]) (Q3A (e:=fun _=>Xq) (Qdm (Zo (Xj (Jj 7 rfl) (Jk:VP _ _ (.int 3)) (QaB _ _))) (Qcm (v:=(2,[])) (r':=fun (c28:(Int × (List D)))=>(((eP2 Q0 (eLi eD)) c28),[sDk l24.2.2,.fz (Q0 heads),.fz (Q0 blocks),.ow (Xq s5.2.1),.ow (Jx s5.2.2.1),.ow (Jx p7.2.2),.fz (Q0 p7.2.1),.fz (Q0 r10.1),.fz (Q0 r12.1),.fz (Q0 r14.1),.ow (Jx l24.2.1),.no,.no,.no])) ((Wx (Jo (Jk:VP _ _ (.int 2)) (Jo ((Yq Jp):VP _ _ ((eLi eD) ([]))) Jp))):VP _ _ ((eP2 Q0 (eLi eD)) (2,[]))) rfl) (Q06 (r':=fun (c29:(Int × (List D)))=>(((eP2 Q0 (eLi eD)) c29),[sDk l24.2.2,.fz (Q0 heads),.fz (Q0 blocks),.ow (Xq s5.2.1),.ow (Jx s5.2.2.1),.ow (Jx p7.2.2),.fz (Q0 p7.2.1),.fz (Q0 r10.1),.fz (Q0 r12.1),.fz (Q0 r14.1),.ow (Jx l24.2.1),.no,.no,.no])) (Q1I (z:=fun r27=>((eP2 Q0 (eLi eD)) (1,(List.map Q0 (Xi l24.2.1 none (some (4 * r27))))))) (Q1I (z:=fun r27=>((eP2 Q0 Jx) (1,(Xi l24.2.1 none (some (4 * r27)))))) (Q35 (V1 (Jk:VP _ _ (.int 1)) (Xe (Qe2 (z:=fun r27=>(Jx (Xi l24.2.1 none (some (4 * r27))))) (V4 10 rfl:VP _ _ (Jx l24.2.1)) Kr (Qc5 (i:=fun r27=>(4 * r27)) (Wj (V1 (Jk:VP _ _ (.int 4)) (Xe (Q7Q 3 (X3 (X0 (Q5I 3 rfl:VP _ _ (Xq s5.2.1)) (X0 (Jj 2 rfl) X7)) (Q6U _ _ )) rfl (fun _=>rfl)) (fun r27=>Jp))) (fun r27=>g2x (Y5 _ _ rfl))) (fun _=>rfl)) (fun _=>Q4X _ _ _)) (fun r27=>Jp)))) (fun _=>rfl)) (fun r27=>(coP2 (fun _=>rfl) (coL (e:=Q0) (e':=eD) (f:=Q0) (fun _=>rfl))) (1,(Xi l24.2.1 none (some (4 * r27)))))) (fun _=>rfl))) (fun b30=>(Jj 6 rfl)) (fun _=>rfl) (fun _ _ h=>Q5C (e':=(eP2 Q0 (eLi eD))) kgI _ _ _ _ h) (fun b30 u31=>(X2 (δ':=[sDk l24.2.2,.fz (Q0 heads),.fz (Q0 blocks),.ow (Xq u31),.ow (Jx s5.2.2.1),.ow (Jx p7.2.2),.fz (Q0 p7.2.1),.fz (Q0 r10.1),.fz (Q0 r12.1),.fz (Q0 r14.1),.ow (Jx l24.2.1),.no,.no,.no]) (Q2e (e:=Q0) (Wj (V1 (Jk:VP _ _ (.int 1)) (Xe (X3 (Ym 0 (X0 (Jk:VP _ _ (.int 99)) X7)) (V7 _ _ )) (fun r32=>Jp))) (fun r32=>g2x (Xk _ _))) (fun _=>rfl) (fun r32 name_33=>(X2 (δ':=[sDk r32.2,.fz (Q0 heads),.fz (Q0 blocks),.ow (Xq u31),.ow (Jx s5.2.2.1),.ow (Jx p7.2.2),.fz (Q0 p7.2.1),.fz (Q0 r10.1),.fz (Q0 r12.1),.fz (Q0 r14.1),.ow (Jx l24.2.1),.fz (Q0 name_33),.no,.no]) (Yh (Q8p (v:=(false,u31)) (Xj (Jj 7 rfl) (Jk:VP _ _ (.int 5)) (Q43 gI _ _)) (Q06 (r':=fun (c35:Bool × (List (Int × (Int × (List D)))))=>((Qg c35.1),[sDk r32.2,.fz (Q0 heads),.fz (Q0 blocks),.ow (Xq c35.2),.ow (Jx s5.2.2.1),.ow (Jx p7.2.2),.fz (Q0 p7.2.1),.fz (Q0 r10.1),.fz (Q0 r12.1),.fz (Q0 r14.1),.ow (Jx l24.2.1),.fz (Q0 name_33),.no,.no])) (X3 (Ym 3 (X0 (Jj 2 rfl) (X0 (Jj 9 rfl) (X0 (Jj 11 rfl) (X0 (Jj 6 rfl) X7))))) (Q50 _ _ _ _ _ )) (fun _=>rfl)) rfl) (fun b36=>(X2 (δ':=[sDk r32.2,.fz (Q0 heads),.fz (Q0 blocks),.ow (Xq b36.2),.ow (Jx s5.2.2.1),.ow (Jx p7.2.2),.fz (Q0 p7.2.1),.fz (Q0 r10.1),.fz (Q0 r12.1),.fz (Q0 r14.1),.ow (Jx l24.2.1),.fz (Q0 name_33),.fz (Qg b36.1),.no]) (K3 (st:=fun s38=>[sDk r32.2,.fz (Q0 heads),.fz (Q0 blocks),.ow (Xq s38),.ow (Jx s5.2.2.1),.ow (Jx p7.2.2),.fz (Q0 p7.2.1),.fz (Q0 r10.1),.fz (Q0 r12.1),.fz (Q0 r14.1),.ow (Jx l24.2.1),.fz (Q0 name_33),.fz (Qg b36.1),.no]) (Q61 (Q3J (Zo (Jj 12 rfl))) (X2 (δ':=[sDk r32.2,.fz (Q0 heads),.fz (Q0 blocks),.ow (Xq b36.2),.ow (Jx s5.2.2.1),.ow (Jx p7.2.2),.fz (Q0 p7.2.1),.fz (Q0 r10.1),.fz (Q0 r12.1),.fz (Q0 r14.1),.ow (Jx l24.2.1),.fz (Q0 name_33),.fz (Qg b36.1),.no]) (Q3A (e:=fun _=>Xq) (Q1I (z:=fun b42=>((eP2 Q0 (eLi eD)) (2,b42.2))) (Q35 (V1 (Jk:VP _ _ (.int 2)) (Xe (Q9q (e:=fun _=>(eLi eD)) (Xe (Zj (e:=fun _=>(eLi eD)) (Xe (Wj (Xe (Q7Q 3 (Y9 (q:=(Ve b36.2 2)) (e:=(eP2 Q0 (eLi eD))) (Q5I 3 rfl:VP _ _ (Xq b36.2)) (Jk:VP _ _ (.int 2)) (fun _ h=>Q3m kgI _ _ _ h)) rfl (fun _=>rfl)) (fun v39=>(Jo (Jk:VP _ _ (.int 1)) Jp))) (fun v39=>g2x (QaH _ _ _))) (fun v39=>(Jo ((Yq (Jo ((Wx (Jo (Jj 6 rfl) (Jo (Jj 6 rfl) Jp))):VP _ _ ((eP2 Q0 Q0) (p7.2.1,p7.2.1))) Jp)):VP _ _ ((eLi eD) ([((eP2 Q0 Q0) (p7.2.1,p7.2.1))]))) Jp))) (fun v39 _ h=>g2x (Q0R _ _ _ h))) (fun b40=>Jp)) (fun b40 _ h=>Q7W _ _ h)) (fun b42=>Jp)))) (fun _=>rfl)) (fun b42=>(Jk:VP _ _ (.int 2))) (fun _=>rfl) (fun _ _ h=>Q5C (e':=(eP2 Q0 (eLi eD))) kgI _ _ _ _ h) (fun b42 u44=>(Ke (v:=u44) rfl)))) (Ke (v:=b36.2) rfl)) (fun s38=>(Zl (X2 (δ':=[sDk r32.2,.fz (Q0 heads),.fz (Q0 blocks),.ow (Xq s38),.ow (Jx s5.2.2.1),.ow (Jx p7.2.2),.fz (Q0 p7.2.1),.fz (Q0 r10.1),.fz (Q0 r12.1),.fz (Q0 r14.1),.ow (Jx l24.2.1),.fz (Q0 name_33),.fz (Qg b36.1),.no]) (Zz (Q2b  (Xe (Y9 (q:=Q04 (r12.1 - 1) (boI (decide (2 < r10.1)))) (e:=Q0) (Xj (Jj 8 rfl) (Jk:VP _ _ (.int 1)) (Xz _ _)) (Q0f (Jo (Xj (Jj 7 rfl) (Jk:VP _ _ (.int 2)) (gt_i _ _)) Jp) (QaY _)) (fun _ h=>Q3R _ _ _ h)) (fun v45=>Jp)) (fun _=>rfl)) (fun b46=>(Q0u (e:=Q0) (st:=fun s48=>[sDk s48.1,.fz (Q0 heads),.fz (Q0 blocks),.ow (Xq s48.2),.ow (Jx s5.2.2.1),.ow (Jx p7.2.2),.fz (Q0 p7.2.1),.fz (Q0 r10.1),.fz (Q0 r12.1),.fz (Q0 r14.1),.ow (Jx l24.2.1),.fz (Q0 name_33),.fz (Qg b36.1),.no]) (s0:=(r32.2,s38)) Za (fun x49 s48=>(Xv 13)) (fun x49 s48=>(X2 (δ':=[sDk s48.1,.fz (Q0 heads),.fz (Q0 blocks),.ow (Xq s48.2),.ow (Jx s5.2.2.1),.ow (Jx p7.2.2),.fz (Q0 p7.2.1),.fz (Q0 r10.1),.fz (Q0 r12.1),.fz (Q0 r14.1),.ow (Jx l24.2.1),.fz (Q0 name_33),.fz (Qg b36.1),.fz (Q0 x49)]) (Q5G (Q18 (Qdl 3 (Q8a (Jj 2 rfl) (Q85 (X3 (Ym 0 (X0 (V4 4 rfl:VP _ _ (Jx s5.2.2.1)) X7)) (Q2q _ _ )) (fun r50=>(Q6o (Wj (V1 (Jk:VP _ _ (.int 1)) (Xe (X3 (Ym 0 (X0 (Jk:VP _ _ (.int 99)) X7)) (V7 _ _ )) (fun r51=>Jp))) (fun r51=>g2x (Xk _ _))) (fun r51=>(X0 (Jj 6 rfl) X7))))))) (fun b52=>Q50 s48.2 blocks b52.1.1 (1 + b52.2.1) p7.2.1)) (fun r53=>(Vf (v:=(r53.1.2.2,r53.2.2)) rfl)))))  (fun s48=>(X2 (δ':=[sDk s48.1,.fz (Q0 heads),.fz (Q0 blocks),.ow (Xq s48.2),.ow (Jx s5.2.2.1),.ow (Jx p7.2.2),.fz (Q0 p7.2.1),.fz (Q0 r10.1),.fz (Q0 r12.1),.fz (Q0 r14.1),.ow (Jx l24.2.1),.fz (Q0 name_33),.fz (Qg b36.1),.no]) (K3 (st:=fun s55=>[sDk s48.1,.fz (Q0 heads),.fz (Q0 blocks),.ow (Xq s48.2),.ow (Jx s55),.ow (Jx p7.2.2),.fz (Q0 p7.2.1),.fz (Q0 r10.1),.fz (Q0 r12.1),.fz (Q0 r14.1),.ow (Jx l24.2.1),.fz (Q0 name_33),.fz (Qg b36.1),.no]) (Q61 (Zo (Xj (Jj 7 rfl) (Jk:VP _ _ (.int 3)) (QaB _ _))) (X2 (δ':=[sDk s48.1,.fz (Q0 heads),.fz (Q0 blocks),.ow (Xq s48.2),.ow (Jx s5.2.2.1),.ow (Jx p7.2.2),.fz (Q0 p7.2.1),.fz (Q0 r10.1),.fz (Q0 r12.1),.fz (Q0 r14.1),.ow (Jx l24.2.1),.fz (Q0 name_33),.fz (Qg b36.1),.no]) (Q5G (QcL 4 (e:=Q0) (Jj 6 rfl)) (fun p56=>(Ke (v:=p56) rfl)))) (Ke (v:=s5.2.2.1) rfl)) (fun s55=>(Vf (v:=(s48.1,s48.2,s55,p7.2.2)) rfl)))))))))))))))))))))))))))))))))))))))))  (fun s5=>(X2 (δ':=[sDk s5.1,.fz (Q0 heads),.fz (Q0 blocks),.ow (Xq s5.2.1),.ow (Jx s5.2.2.1),.ow (Jx s5.2.2.2),.no,.no,.no,.no,.no,.no,.no,.no]) (Q7Z rfl rfl))))))))))))))
def Q1o (deck:Dk) (model:(List (Int × (Int × (List D))))) (blocks:Int):Option ((List (Int × (List Int))) × Dk):=((rgQ 4 (blocks + 1))).bind fun v1=>Q2u ([(2,[1,2,3])]) fun given_3=>((Q64 model)).bind fun v4=>(Q1a (fun x6 s5=>(if (!decide (x6 = 2)) then ((((((Ve model x6)).bind fun v8=>((Ve model x6)).map fun v9=>(v8,v9))).bind fun b10=>(Wb b10.1.1 b10.2.2).map fun v12=>(b10,v12))).bind fun r11=>((((Q4H r11.2)).bind fun v14=>(Wm v14 (Q4s (fun x20 s19=>(((((V9 s19.1 (Wo s19.2))).bind fun r21=>(Q2Y s19.2 r21.1).map fun v23=>(r21,v23))).map fun p22=>(p22.2.1,(p22.1.2,p22.2.2)))) v14 (s5.1,s5.2.1))).map fun v25=>(v14,v25))).bind fun l24=>(Q2z s5.2.2 x6 l24.2.1).bind fun u26=>(some (l24.2.2.1,l24.2.2.2,u26)) else (some (s5.1,s5.2.1,s5.2.2))).bind fun s7=>(some (s7.1,s7.2.1,s7.2.2))) v4 (deck,v1,given_3)).bind fun s5=>(some (s5.2.2,s5.1))
theorem Q8Y (deck:Dk) (model:(List (Int × (Int × (List D))))) (blocks:Int):∀ v,Q1o deck model blocks = some v → K9 [sDk deck,.fz ((eDi Q0 (eP2 Q0 (eLi eD))) model),.fz (Q0 blocks)] = some (((eDi Q0 (eLi Q0)) v.1),[sDk v.2,.fz ((eDi Q0 (eP2 Q0 (eLi eD))) model),.fz (Q0 blocks)]):=by
 exact Kb (X2 (δ':=[sDk deck,.fz (Xq model),.fz (Q0 blocks),.no,.no,.no,.no,.no]) (Z2 (Y9 (q:=(rgQ 4 (blocks + 1))) (e:=Jx) (Jk:VP _ _ (.int 4)) (Xj (Jj 2 rfl) (Jk:VP _ _ (.int 1)) (Xk _ _)) (fun _ h=>Qe4 _ _ _ h)) (fun v1=>(X2 (δ':=[sDk deck,.fz (Xq model),.fz (Q0 blocks),.ow (Jx v1),.no,.no,.no,.no]) (Q8f (e:=Vz) (v:=[(2,[1,2,3])]) (Q8w (Q5m (Jk:VP _ _ (.int 2)) ((Yq (Jo (Jk:VP _ _ (.int 1)) (Jo (Jk:VP _ _ (.int 2)) (Jo (Jk:VP _ _ (.int 3)) Jp)))):VP _ _ (Jx ([1,2,3]))) Q9X) rfl:VP _ _ (Vz [(2,[1,2,3])])) (fun given_3=>(Zl (X2 (δ':=[sDk deck,.fz (Xq model),.fz (Q0 blocks),.ow (Jx v1),.ow (Vz given_3),.no,.no,.no]) (Zz (Q5a (Q4g (q:=(Q64 model)) (e:=Jx) (Jo (Jj 1 rfl) Jp) (fun _ h=>QbN _ _ h)) (fun _=>Q2y _)) (fun v4=>(Q0u (e:=Q0) (st:=fun s5=>[sDk s5.1,.fz (Xq model),.fz (Q0 blocks),.ow (Jx s5.2.1),.ow (Vz s5.2.2),.no,.no,.no]) (s0:=(deck,v1,given_3)) Za (fun x6 s5=>(Xv 5)) (fun x6 s5=>(X2 (δ':=[sDk s5.1,.fz (Xq model),.fz (Q0 blocks),.ow (Jx s5.2.1),.ow (Vz s5.2.2),.fz (Q0 x6),.no,.no]) (K3 (st:=fun s7=>[sDk s7.1,.fz (Xq model),.fz (Q0 blocks),.ow (Jx s7.2.1),.ow (Vz s7.2.2),.fz (Q0 x6),.no,.no]) (Q61 (Zo (Xj (Jj 5 rfl) (Jk:VP _ _ (.int 2)) (Q43 gI _ _))) (X2 (δ':=[sDk s5.1,.fz (Xq model),.fz (Q0 blocks),.ow (Jx s5.2.1),.ow (Vz s5.2.2),.fz (Q0 x6),.no,.no]) (Yh (Q18 (Q85 (Wj (Xe (Y9 (q:=(Ve model x6)) (e:=(eP2 Q0 (eLi eD))) (Jj 1 rfl) (Jj 5 rfl) (fun _ h=>Q3m kgI _ _ _ h)) (fun v8=>(Jo (Jk:VP _ _ (.int 0)) Jp))) (fun v8=>g2x (Qbj _ _))) (fun v8=>(Q6o (Wj (Xe (Y9 (q:=(Ve model x6)) (e:=(eP2 Q0 (eLi eD))) (Jj 1 rfl) (Jj 5 rfl) (fun _ h=>Q3m kgI _ _ _ h)) (fun v9=>(Jo (Jk:VP _ _ (.int 1)) Jp))) (fun v9=>g2x (QaH _ _ _))) (fun v9=>X7)))) (fun b10=>Q1i b10.1.1 b10.2.2)) (fun r11=>(X2 (δ':=[sDk s5.1,.fz (Xq model),.fz (Q0 blocks),.ow (Jx s5.2.1),.ow (Vz s5.2.2),.fz (Q0 x6),.fz (Q0 r11.2),.no]) (Q3A (e:=fun _=>Vz) (Q1S (Qc7 (Jo (Jj 6 rfl) Jp)) (fun v14=>(Q3w (e:=Q0) (e':=Q0) (st:=fun s19=>[sDk s19.1,.fz (Xq model),.fz (Q0 blocks),.ow (Jx s19.2),.ow (Vz s5.2.2),.fz (Q0 x6),.fz (Q0 r11.2),.no]) (s0:=(s5.1,s5.2.1)) (δb:=fun x20 s19=>[sDk s19.1,.fz (Xq model),.fz (Q0 blocks),.ow (Jx s19.2),.ow (Vz s5.2.2),.fz (Q0 x6),.fz (Q0 r11.2),.fz (Q0 x20)]) Za (fun x20 s19=>(Xv 7)) (fun x20 s19=>(Q06 (Q6H 3 (e:=Q0) (X3 (Ym 0 (X0 (Q0f (Jo (V4 3 rfl:VP _ _ (Jx s19.2)) Jp) (Q0c _)) X7)) (V7 _ _ )) (fun _=>rfl)) (fun _=>rfl)))))) (fun l24=>(Jj 5 rfl)) (fun _=>rfl) (fun _ _ h=>Q5C (e':=Jx) kgI _ _ _ _ h) (fun l24 u26=>(Q8h (v:=(l24.2.2.1,l24.2.2.2,u26)) rfl))))))) (Q8h (v:=(s5.1,s5.2.1,s5.2.2)) rfl)) (fun s7=>(Vf (v:=(s7.1,s7.2.1,s7.2.2)) rfl)))))  (fun s5=>(X2 (δ':=[sDk s5.1,.fz (Xq model),.fz (Q0 blocks),.ow (Jx s5.2.1),.ow (Vz s5.2.2),.no,.no,.no]) (Q7Z rfl rfl))))))))))))))
def Q27 (heads:Int) (blocks:Int) (model:(List (Int × (Int × (List D))))) (given:(List (Int × (List Int)))):Option (Int × Int × (List Int)):=(Q92 ([0]) (((7 * heads) + (5 * blocks)) + 82)).bind fun v1=>(Q1a (fun x4 s3=>((Ve model x4)).bind fun v5=>(((fun ds=>List.mapM asI ds) (if (decide (v5.1 = 1)) then v5.2 else []))).bind fun c7=>((List.mapM (Q8H asI asI) (if (decide (v5.1 = 2)) then v5.2 else []))).bind fun v8=>(Q1a (fun x10 s9=>((QbQ s9.2 ([x10.1,x10.2]))).bind fun p11=>((atI s9.1 ((7 * x10.2) - 6))).bind fun v12=>(Q0J s9.1 ((7 * x10.2) - 6) (v12 + 1)).bind fun u13=>(some (u13,p11))) v8 (s3,c7)).bind fun s9=>(Q0J s9.1 ((7 * x4) - 7) v5.1).bind fun u14=>(Q0J u14 ((7 * x4) - 5) (Wo s9.2)).bind fun u15=>(Q0J u15 ((7 * x4) - 4) s9.2.sum).bind fun u16=>((Ve given x4)).bind fun v17=>(Q1a (fun x19 s18=>(Q0J s18 (((7 * x4) - 3) + x19.1) x19.2).bind fun u20=>(Q0J u20 (((7 * heads) + x19.2) - 1) 1).bind fun u21=>(Q1a (fun x23 s22=>(Q0J s22 (((((7 * heads) + blocks) + (4 * x19.2)) - 4) + x23.1) x23.2).bind fun u24=>(some u24)) (Q3j (Xi s9.2 (some (4 * x19.1)) (some ((4 * x19.1) + 4)))) u21).bind fun s22=>(some s22)) (Q3j v17) u16).bind fun s18=>(some s18)) (model.map (·.1)) v1).bind fun s3=>(some (heads,blocks,s3))
theorem QaQ (heads:Int) (blocks:Int) (model:(List (Int × (Int × (List D))))) (given:(List (Int × (List Int)))):∀ v,Q27 heads blocks model given = some v → Kq [.fz (Q0 heads),.fz (Q0 blocks),.fz ((eDi Q0 (eP2 Q0 (eLi eD))) model),.fz ((eDi Q0 (eLi Q0)) given)] = some (((eP3 Q0 Q0 (eTu Q0)) v),[.fz (Q0 heads),.fz (Q0 blocks),.fz ((eDi Q0 (eP2 Q0 (eLi eD))) model),.fz ((eDi Q0 (eLi Q0)) given)]):=by
 exact Kb (X2 (δ':=[.fz (Q0 heads),.fz (Q0 blocks),.fz (Xq model),.fz (Vz given),.no,.no,.no,.no,.no,.no,.no,.no,.no,.no,.no]) (Z2 (Y9 (q:=Q92 ([0]) (((7 * heads) + (5 * blocks)) + 82)) (e:=Jx) ((Yq (Jo (Jk:VP _ _ (.int 0)) Jp)):VP _ _ (Jx ([0]))) (Xj (Xj (Xj (Jk:VP _ _ (.int 7)) (Jj 0 rfl) (Y5 _ _ rfl)) (Xj (Jk:VP _ _ (.int 5)) (Jj 1 rfl) (Y5 _ _ rfl)) (Xk _ _)) (Jk:VP _ _ (.int 82)) (Xk _ _)) (fun _ h=>Qdn _ _ _ h)) (fun v1=>(Zl (X2 (δ':=[.fz (Q0 heads),.fz (Q0 blocks),.fz (Xq model),.fz (Vz given),.ow (Jx v1),.no,.no,.no,.no,.no,.no,.no,.no,.no,.no]) (Q0u (e:=Q0) (st:=fun s3=>[.fz (Q0 heads),.fz (Q0 blocks),.fz (Xq model),.fz (Vz given),.ow (Jx s3),.no,.no,.no,.no,.no,.no,.no,.no,.no,.no]) (s0:=v1) (Q3p (Jj 2 rfl) (Qci _)) (fun x4 s3=>(Xv 5)) (fun x4 s3=>(X2 (δ':=[.fz (Q0 heads),.fz (Q0 blocks),.fz (Xq model),.fz (Vz given),.ow (Jx s3),.fz (Q0 x4),.no,.no,.no,.no,.no,.no,.no,.no,.no]) (Q3t (Y9 (q:=(Ve model x4)) (e:=(eP2 Q0 (eLi eD))) (Jj 2 rfl) (Jj 5 rfl) (fun _ h=>Q3m kgI _ _ _ h)) (fun v5=>(Zb (Xn (Xv 7) (Xn (Xv 8) W3)))) (fun v5=>(X2 (δ':=[.fz (Q0 heads),.fz (Q0 blocks),.fz (Xq model),.fz (Vz given),.ow (Jx s3),.fz (Q0 x4),.no,.fz (Q0 v5.1),.fz ((eLi eD) v5.2),.no,.no,.no,.no,.no,.no]) (Z2 (QcD (q:=(fun ds=>List.mapM asI ds) (if (decide (v5.1 = 1)) then v5.2 else [])) (e:=Jx) (Q9v (e:=(eLi eD)) (Zo (Xj (Jj 7 rfl) (Jk:VP _ _ (.int 1)) (Q3P gI _ _))) (Q0f (Jo (Jj 8 rfl) Jp) (Qbp _)) ((Yq Jp):VP _ _ ((eLi eD) ([])))) ((dnL (Qag)) _)) (fun c7=>(Zl (X2 (δ':=[.fz (Q0 heads),.fz (Q0 blocks),.fz (Xq model),.fz (Vz given),.ow (Jx s3),.fz (Q0 x4),.ow (Jx c7),.fz (Q0 v5.1),.fz ((eLi eD) v5.2),.no,.no,.no,.no,.no,.no]) (Zz (Q7v (q:=(List.mapM (Q8H asI asI) (if (decide (v5.1 = 2)) then v5.2 else []))) (z:=fun v=>List.map (eP2 Q0 Q0) v) (Q9v (e:=(eLi eD)) (Zo (Xj (Jj 7 rfl) (Jk:VP _ _ (.int 2)) (Q3P gI _ _))) (Jj 8 rfl) ((Yq Jp):VP _ _ ((eLi eD) ([])))) (fun _ h=>Qdk (QcM (Qag) (Qag)) _ _ h)) (fun v8=>(Q0u (e:=(eP2 Q0 Q0)) (st:=fun s9=>[.fz (Q0 heads),.fz (Q0 blocks),.fz (Xq model),.fz (Vz given),.ow (Jx s9.1),.fz (Q0 x4),.ow (Jx s9.2),.fz (Q0 v5.1),.fz ((eLi eD) v5.2),.no,.no,.no,.no,.no,.no]) (s0:=(s3,c7)) Za (fun x10 s9=>(Zb (Xn (Xv 9) (Xn (Xv 10) W3)))) (fun x10 s9=>(X2 (δ':=[.fz (Q0 heads),.fz (Q0 blocks),.fz (Xq model),.fz (Vz given),.ow (Jx s9.1),.fz (Q0 x4),.ow (Jx s9.2),.fz (Q0 v5.1),.fz ((eLi eD) v5.2),.fz (Q0 x10.1),.fz (Q0 x10.2),.no,.no,.no,.no]) (Q5G (Qdw 6 (e:=Q0) ((Yq (Jo (Jj 9 rfl) (Jo (Jj 10 rfl) Jp))):VP _ _ (Jx ([x10.1,x10.2])))) (fun p11=>(X2 (δ':=[.fz (Q0 heads),.fz (Q0 blocks),.fz (Xq model),.fz (Vz given),.ow (Jx s9.1),.fz (Q0 x4),.ow (Jx p11),.fz (Q0 v5.1),.fz ((eLi eD) v5.2),.fz (Q0 x10.1),.fz (Q0 x10.2),.no,.no,.no,.no]) (Q3A (e:=fun _=>Jx) (Wj (Xe (Y9 (q:=(atI s9.1 ((7 * x10.2) - 6))) (e:=Q0) (V4 4 rfl:VP _ _ (Jx s9.1)) (Xj (Xj (Jk:VP _ _ (.int 7)) (Jj 10 rfl) (Y5 _ _ rfl)) (Jk:VP _ _ (.int 6)) (Xz _ _)) (fun _ h=>Zf _ _ _ h)) (fun v12=>(Jo (Jk:VP _ _ (.int 1)) Jp))) (fun v12=>g2x (Xk _ _))) (fun v12=>(Xj (Xj (Jk:VP _ _ (.int 7)) (Jj 10 rfl) (Y5 _ _ rfl)) (Jk:VP _ _ (.int 6)) (Xz _ _))) (fun _=>rfl) (fun _ _ h=>Q0Y _ _ _ _ h) (fun v12 u13=>(Vf (v:=(u13,p11)) rfl))))))))  (fun s9=>(X2 (δ':=[.fz (Q0 heads),.fz (Q0 blocks),.fz (Xq model),.fz (Vz given),.ow (Jx s9.1),.fz (Q0 x4),.ow (Jx s9.2),.fz (Q0 v5.1),.fz ((eLi eD) v5.2),.no,.no,.no,.no,.no,.no]) (Q23 (q:=(Q0J s9.1 ((7 * x4) - 7) v5.1)) (e:=Jx) (Jj 7 rfl) (Xj (Xj (Jk:VP _ _ (.int 7)) (Jj 5 rfl) (Y5 _ _ rfl)) (Jk:VP _ _ (.int 7)) (Xz _ _)) rfl (fun _ h=>Q0Y _ _ _ _ h) (fun u14=>(X2 (δ':=[.fz (Q0 heads),.fz (Q0 blocks),.fz (Xq model),.fz (Vz given),.ow (Jx u14),.fz (Q0 x4),.ow (Jx s9.2),.fz (Q0 v5.1),.fz ((eLi eD) v5.2),.no,.no,.no,.no,.no,.no]) (Q23 (q:=(Q0J u14 ((7 * x4) - 5) (Wo s9.2))) (e:=Jx) (Q0f (Jo (V4 6 rfl:VP _ _ (Jx s9.2)) Jp) (Q0c _)) (Xj (Xj (Jk:VP _ _ (.int 7)) (Jj 5 rfl) (Y5 _ _ rfl)) (Jk:VP _ _ (.int 5)) (Xz _ _)) rfl (fun _ h=>Q0Y _ _ _ _ h) (fun u15=>(X2 (δ':=[.fz (Q0 heads),.fz (Q0 blocks),.fz (Xq model),.fz (Vz given),.ow (Jx u15),.fz (Q0 x4),.ow (Jx s9.2),.fz (Q0 v5.1),.fz ((eLi eD) v5.2),.no,.no,.no,.no,.no,.no]) (Q23 (q:=(Q0J u15 ((7 * x4) - 4) s9.2.sum)) (e:=Jx) (Q0f (Jo (V4 6 rfl:VP _ _ (Jx s9.2)) Jp) (Qce _)) (Xj (Xj (Jk:VP _ _ (.int 7)) (Jj 5 rfl) (Y5 _ _ rfl)) (Jk:VP _ _ (.int 4)) (Xz _ _)) rfl (fun _ h=>Q0Y _ _ _ _ h) (fun u16=>(Zl (X2 (δ':=[.fz (Q0 heads),.fz (Q0 blocks),.fz (Xq model),.fz (Vz given),.ow (Jx u16),.fz (Q0 x4),.ow (Jx s9.2),.fz (Q0 v5.1),.fz ((eLi eD) v5.2),.no,.no,.no,.no,.no,.no]) (Zz (Qbk (Y9 (q:=(Ve given x4)) (e:=Jx) (Jj 3 rfl) (Jj 5 rfl) (fun _ h=>Q3m kgI _ _ _ h)) (fun _=>rfl)) (fun v17=>(Q0u (e:=(eP2 Q0 Q0)) (st:=fun s18=>[.fz (Q0 heads),.fz (Q0 blocks),.fz (Xq model),.fz (Vz given),.ow (Jx s18),.fz (Q0 x4),.ow (Jx s9.2),.fz (Q0 v5.1),.fz ((eLi eD) v5.2),.no,.no,.no,.no,.no,.no]) (s0:=u16) Za (fun x19 s18=>(Zb (Xn (Xv 11) (Xn (Xv 12) W3)))) (fun x19 s18=>(X2 (δ':=[.fz (Q0 heads),.fz (Q0 blocks),.fz (Xq model),.fz (Vz given),.ow (Jx s18),.fz (Q0 x4),.ow (Jx s9.2),.fz (Q0 v5.1),.fz ((eLi eD) v5.2),.no,.no,.fz (Q0 x19.1),.fz (Q0 x19.2),.no,.no]) (Q23 (q:=(Q0J s18 (((7 * x4) - 3) + x19.1) x19.2)) (e:=Jx) (Jj 12 rfl) (Xj (Xj (Xj (Jk:VP _ _ (.int 7)) (Jj 5 rfl) (Y5 _ _ rfl)) (Jk:VP _ _ (.int 3)) (Xz _ _)) (Jj 11 rfl) (Xk _ _)) rfl (fun _ h=>Q0Y _ _ _ _ h) (fun u20=>(X2 (δ':=[.fz (Q0 heads),.fz (Q0 blocks),.fz (Xq model),.fz (Vz given),.ow (Jx u20),.fz (Q0 x4),.ow (Jx s9.2),.fz (Q0 v5.1),.fz ((eLi eD) v5.2),.no,.no,.fz (Q0 x19.1),.fz (Q0 x19.2),.no,.no]) (Q23 (q:=(Q0J u20 (((7 * heads) + x19.2) - 1) 1)) (e:=Jx) (Jk:VP _ _ (.int 1)) (Xj (Xj (Xj (Jk:VP _ _ (.int 7)) (Jj 0 rfl) (Y5 _ _ rfl)) (Jj 12 rfl) (Xk _ _)) (Jk:VP _ _ (.int 1)) (Xz _ _)) rfl (fun _ h=>Q0Y _ _ _ _ h) (fun u21=>(Zl (X2 (δ':=[.fz (Q0 heads),.fz (Q0 blocks),.fz (Xq model),.fz (Vz given),.ow (Jx u21),.fz (Q0 x4),.ow (Jx s9.2),.fz (Q0 v5.1),.fz ((eLi eD) v5.2),.no,.no,.fz (Q0 x19.1),.fz (Q0 x19.2),.no,.no]) (Q0u (e:=(eP2 Q0 Q0)) (st:=fun s22=>[.fz (Q0 heads),.fz (Q0 blocks),.fz (Xq model),.fz (Vz given),.ow (Jx s22),.fz (Q0 x4),.ow (Jx s9.2),.fz (Q0 v5.1),.fz ((eLi eD) v5.2),.no,.no,.fz (Q0 x19.1),.fz (Q0 x19.2),.no,.no]) (s0:=u21) (QbG (Q4o (V4 6 rfl:VP _ _ (Jx s9.2)) (Yy (Xj (Jk:VP _ _ (.int 4)) (Jj 11 rfl) (Y5 _ _ rfl))) (Yy (Xj (Xj (Jk:VP _ _ (.int 4)) (Jj 11 rfl) (Y5 _ _ rfl)) (Jk:VP _ _ (.int 4)) (Xk _ _))) (Q4X _ _ _))) (fun x23 s22=>(Zb (Xn (Xv 13) (Xn (Xv 14) W3)))) (fun x23 s22=>(X2 (δ':=[.fz (Q0 heads),.fz (Q0 blocks),.fz (Xq model),.fz (Vz given),.ow (Jx s22),.fz (Q0 x4),.ow (Jx s9.2),.fz (Q0 v5.1),.fz ((eLi eD) v5.2),.no,.no,.fz (Q0 x19.1),.fz (Q0 x19.2),.fz (Q0 x23.1),.fz (Q0 x23.2)]) (Q23 (q:=(Q0J s22 (((((7 * heads) + blocks) + (4 * x19.2)) - 4) + x23.1) x23.2)) (e:=Jx) (Jj 14 rfl) (Xj (Xj (Xj (Xj (Xj (Jk:VP _ _ (.int 7)) (Jj 0 rfl) (Y5 _ _ rfl)) (Jj 1 rfl) (Xk _ _)) (Xj (Jk:VP _ _ (.int 4)) (Jj 12 rfl) (Y5 _ _ rfl)) (Xk _ _)) (Jk:VP _ _ (.int 4)) (Xz _ _)) (Jj 13 rfl) (Xk _ _)) rfl (fun _ h=>Q0Y _ _ _ _ h) (fun u24=>(Vf (v:=u24) rfl)))))  (fun s22=>(Vf (v:=s22) rfl))))))))))))  (fun s18=>(Vf (v:=s18) rfl)))))))))))))))))))))))))))))  (fun s3=>(X2 (δ':=[.fz (Q0 heads),.fz (Q0 blocks),.fz (Xq model),.fz (Vz given),.ow (Jx s3),.no,.no,.no,.no,.no,.no,.no,.no,.no,.no]) (W9 ((Wx (Jo (Jj 0 rfl) (Jo (Jj 1 rfl) (Jo (Q0f (Jo (V4 4 rfl:VP _ _ (Jx s3)) Jp) (Q5J _)) Jp)))):VP _ _ (Yk (heads,blocks,s3))) rfl)))))))))
def Q1d (deck:Dk):Option ((Int × Int × (List Int)) × Dk):=((Q1q deck)).bind fun r1=>((Q1g r1.2 r1.1.1 r1.1.2)).bind fun r2=>((((Q1o r2.2 r2.1 r1.1.2)).bind fun r4=>(Q27 r1.1.1 r1.1.2 r2.1 r4.1).map fun v6=>(r4,v6))).bind fun r5=>(some (r5.2,r5.1.2))
theorem Q8J (deck:Dk):∀ v,Q1d deck = some v → K5 [sDk deck] = some (((eP3 Q0 Q0 (eTu Q0)) v.1),[sDk v.2]):=by
 exact Kb (Q3t (X3 (Ym 0 X7) (Q8X _ )) (fun r1=>(Zb (Xn (Xv 1) (Xn (Xv 2) W3)))) (fun r1=>(Yh (X3 (Ym 0 (X0 (Jj 1 rfl) (X0 (Jj 2 rfl) X7))) (Q8L _ _ _ )) (fun r2=>(Yn (Q18 (Q8a (Jj 1 rfl) (Q8a (Jj 2 rfl) (Q8a (Jj 3 rfl) (Q6o (X3 (Ym 0 (X0 (Jj 3 rfl) (X0 (Jj 2 rfl) X7))) (Q8Y _ _ _ )) (fun r4=>X7))))) (fun r4=>QaQ r1.1.1 r1.1.2 r2.1 r4.1)) (fun _=>rfl))))))
def Zc (deck:Dk):Option (Int × Dk):=((V9 deck 8)).bind fun r1=>if (decide (r1.1 < 4)) then ((V9 r1.2 4)).bind fun r3=>(some (r3.1,r3.2)) else if (decide (r1.1 < 6)) then ((V9 r1.2 120)).bind fun r4=>(some ((r4.1 - 10),r4.2)) else ((((atI ([2,6]) (r1.1 - 6))).bind fun v6=>(Q4H v6).map fun v8=>(v6,v8))).bind fun b7=>(Q1a (fun x10 s9=>(((Q04 s9.2 (10 ^ 6:Int)).bind fun v11=>((V9 s9.1 (10 ^ 6:Int))).map fun r12=>(v11,r12))).bind fun b13=>Q2u (b13.1 + b13.2.1) fun number_14=>(some (b13.2.2,number_14))) b7.2 (r1.2,0)).bind fun s9=>((((V9 s9.1 6)).bind fun r15=>((atI ([s9.2,(0 - s9.2),((10 ^ 39:Int) + s9.2),((10 ^ 40:Int) - 1),(0 - s9.2),(1 - (10 ^ 40:Int))]) r15.1)).map fun v17=>(r15,v17))).bind fun b16=>(some (b16.2,b16.1.2))
theorem Q3X (deck:Dk):∀ v,Zc deck = some v → Vl [sDk deck] = some ((Q0 v.1),[sDk v.2]):=by
 exact Kb (Yh (X3 (Ym 0 (X0 (Jk:VP _ _ (.int 8)) X7)) (V7 _ _ )) (fun r1=>(X2 (δ':=[sDk r1.2,.fz (Q0 r1.1),.no,.no]) (Q6q (Zo (Xj (Jj 1 rfl) (Jk:VP _ _ (.int 4)) (QaB _ _))) (Vi (Yn (X3 (Ym 0 (X0 (Jk:VP _ _ (.int 4)) X7)) (V7 _ _ )) (fun _=>rfl))) (K6 (X2 (δ':=[sDk r1.2,.fz (Q0 r1.1),.no,.no]) (Q6q (Zo (Xj (Jj 1 rfl) (Jk:VP _ _ (.int 6)) (QaB _ _))) (Vi (Yn (Wj (Xe (X3 (Ym 0 (X0 (Jk:VP _ _ (.int 120)) X7)) (V7 _ _ )) (fun r4=>(Jo (Jk:VP _ _ (.int 10)) Jp))) (fun r4=>g2x (Xz _ _))) (fun _=>rfl))) (K6 (Q60 (Jk:VP _ _ (.int 0)) (Zl (X2 (δ':=[sDk r1.2,.fz (Q0 r1.1),.fz (Q0 0),.no]) (Zz (Q2b  (Xe (Y9 (q:=(atI ([2,6]) (r1.1 - 6))) (e:=Q0) ((Yq (Jo (Jk:VP _ _ (.int 2)) (Jo (Jk:VP _ _ (.int 6)) Jp))):VP _ _ (Jx ([2,6]))) (Xj (Jj 1 rfl) (Jk:VP _ _ (.int 6)) (Xz _ _)) (fun _ h=>Zf _ _ _ h)) (fun v6=>Jp)) (fun _=>rfl)) (fun b7=>(Q0u (e:=Q0) (st:=fun s9=>[sDk s9.1,.fz (Q0 r1.1),.fz (Q0 s9.2),.no]) (s0:=(r1.2,0)) Za (fun x10 s9=>(Xv 3)) (fun x10 s9=>(Q2e (e:=Q0) (Wj (Q0G (Y9 (q:=Q04 s9.2 (10 ^ 6:Int)) (e:=Q0) (Jj 2 rfl) (Xj (Jk:VP _ _ (.int 10)) (Jk:VP _ _ (.int 6)) (show Kv (.int 10) (.int 6) = some (.int (10 ^ 6)) from rfl)) (fun _ h=>Q3R _ _ _ h)) (fun v11=>(Xe (X3 (Ym 0 (X0 (Xj (Jk:VP _ _ (.int 10)) (Jk:VP _ _ (.int 6)) (show Kv (.int 10) (.int 6) = some (.int (10 ^ 6)) from rfl)) X7)) (V7 _ _ )) (fun r12=>Jp)))) (fun b13=>g2x (Xk _ _))) (fun _=>rfl) (fun b13 number_14=>(Vf (v:=(b13.2.2,number_14)) rfl))))  (fun s9=>(Yn (Zj (e:=fun _=>Q0) (V1 ((Yq (Jo (Jj 2 rfl) (Jo (Xj (Jk:VP _ _ (.int 0)) (Jj 2 rfl) (Xz _ _)) (Jo (Xj (Xj (Jk:VP _ _ (.int 10)) (Jk:VP _ _ (.int 39)) (show Kv (.int 10) (.int 39) = some (.int (10 ^ 39)) from rfl)) (Jj 2 rfl) (Xk _ _)) (Jo (Xj (Xj (Jk:VP _ _ (.int 10)) (Jk:VP _ _ (.int 40)) (show Kv (.int 10) (.int 40) = some (.int (10 ^ 40)) from rfl)) (Jk:VP _ _ (.int 1)) (Xz _ _)) (Jo (Xj (Jk:VP _ _ (.int 0)) (Jj 2 rfl) (Xz _ _)) (Jo (Xj (Jk:VP _ _ (.int 1)) (Xj (Jk:VP _ _ (.int 10)) (Jk:VP _ _ (.int 40)) (show Kv (.int 10) (.int 40) = some (.int (10 ^ 40)) from rfl)) (Xz _ _)) Jp))))))):VP _ _ (Jx ([s9.2,(0 - s9.2),((10 ^ 39:Int) + s9.2),((10 ^ 40:Int) - 1),(0 - s9.2),(1 - (10 ^ 40:Int))]))) (Xe (X3 (Ym 0 (X0 (Jk:VP _ _ (.int 6)) X7)) (V7 _ _ )) (fun r15=>Jp))) (fun r15 _ h=>g2x (Zf _ _ _ h))) (fun _=>rfl)))))))))))))))))
def K0 (deck:Dk):Option ((Int × Int × (List Int)) × Dk):=((V9 deck 3)).bind fun r1=>((Q1d r1.2)).bind fun r3=>if (decide (r1.1 = 0)) then ((Wm r3.1.2.2 (Q4s (fun x7 s6=>(((Zc s6)).map fun r8=>(r8.1,r8.2))) r3.1.2.2 r3.2))).bind fun l9=>(some ((r3.1.1,r3.1.2.1,l9.1),l9.2)) else ((((((V9 r3.2 12)).bind fun r11=>(Q04 r1.1 r11.1).map fun v13=>(r11,v13))).bind fun b12=>(Q4H b12.2).map fun v15=>(b12,v15))).bind fun b14=>(Q1a (fun x17 s16=>((Zc s16.1)).bind fun r18=>((V9 r18.2 (Wo s16.2))).bind fun r19=>(Q0J s16.2 r19.1 r18.1).bind fun u20=>(some (r19.2,u20))) b14.2 (b14.1.1.2,r3.1.2.2)).bind fun s16=>(some ((r3.1.1,r3.1.2.1,s16.2),s16.1))
theorem Q4v (deck:Dk):∀ v,K0 deck = some v → Vd [sDk deck] = some (((eP3 Q0 Q0 (eTu Q0)) v.1),[sDk v.2]):=by
 exact Kb (X2 (δ':=[sDk deck,.no,.no,.no,.no,.no,.no]) (Yh (X3 (Ym 0 (X0 (Jk:VP _ _ (.int 3)) X7)) (V7 _ _ )) (fun r1=>(X2 (δ':=[sDk r1.2,.fz (Q0 r1.1),.no,.no,.no,.no,.no]) (Q3t (X3 (Ym 0 X7) (Q8J _ )) (fun r3=>(Zb (Xn (Xv 2) (Xn (Xv 3) (Xn (Xv 4) W3))))) (fun r3=>(X2 (δ':=[sDk r3.2,.fz (Q0 r1.1),.fz (Q0 r3.1.1),.fz (Q0 r3.1.2.1),.fz ((eTu Q0) r3.1.2.2),.no,.no]) (Q6q (Zo (Xj (Jj 1 rfl) (Jk:VP _ _ (.int 0)) (Q3P gI _ _))) (Vi (X2 (δ':=[sDk r3.2,.fz (Q0 r1.1),.fz (Q0 r3.1.1),.fz (Q0 r3.1.2.1),.fz ((eTu Q0) r3.1.2.2),.no,.no]) (Yn (Q1I (z:=fun l9=>(Yk (r3.1.1,r3.1.2.1,l9.1))) (Q35 (V1 (Jj 2 rfl) (V1 (Jj 3 rfl) (Xe (Q7y (Xe (Q3w (e:=Q0) (e':=Q0) (st:=fun s6=>[sDk s6,.fz (Q0 r1.1),.fz (Q0 r3.1.1),.fz (Q0 r3.1.2.1),.fz ((eTu Q0) r3.1.2.2),.no,.no]) (s0:=r3.2) (δb:=fun x7 s6=>[sDk s6,.fz (Q0 r1.1),.fz (Q0 r3.1.1),.fz (Q0 r3.1.2.1),.fz ((eTu Q0) r3.1.2.2),.fz (Q0 x7),.no]) (Q3p (Jj 4 rfl) (Qct _)) (fun x7 s6=>(Xv 5)) (fun x7 s6=>(Q06 (X3 (Ym 0 X7) (Q3X _ )) (fun _=>rfl)))) (fun l9=>Jp)) (fun l9=>Q5J _)) (fun l9=>Jp))))) (fun _=>rfl)) (fun _=>rfl)))) (K6 (X2 (δ':=[sDk r3.2,.fz (Q0 r1.1),.fz (Q0 r3.1.1),.fz (Q0 r3.1.2.1),.fz ((eTu Q0) r3.1.2.2),.no,.no]) (Q7M (Q0f (Jo (Jj 4 rfl) Jp) (Qbc _)) (Zl (X2 (δ':=[sDk r3.2,.fz (Q0 r1.1),.fz (Q0 r3.1.1),.fz (Q0 r3.1.2.1),.ow (Jx r3.1.2.2),.no,.no]) (Zz (Q2b  (Xe (Zj (e:=fun _=>Q0) (V1 (Jj 1 rfl) (Xe (X3 (Ym 0 (X0 (Jk:VP _ _ (.int 12)) X7)) (V7 _ _ )) (fun r11=>Jp))) (fun r11 _ h=>g2x (Q3R _ _ _ h))) (fun b12=>Jp)) (fun _=>rfl)) (fun b14=>(Q0u (e:=Q0) (st:=fun s16=>[sDk s16.1,.fz (Q0 r1.1),.fz (Q0 r3.1.1),.fz (Q0 r3.1.2.1),.ow (Jx s16.2),.no,.no]) (s0:=(b14.1.1.2,r3.1.2.2)) Za (fun x17 s16=>(Xv 6)) (fun x17 s16=>(X2 (δ':=[sDk s16.1,.fz (Q0 r1.1),.fz (Q0 r3.1.1),.fz (Q0 r3.1.2.1),.ow (Jx s16.2),.no,.fz (Q0 x17)]) (QbE (e:=fun _ _=>Jx) (X3 (Ym 0 X7) (Q3X _ )) (fun r18=>(X3 (Ym 0 (X0 (Q0f (Jo (V4 4 rfl:VP _ _ (Jx s16.2)) Jp) (Q0c _)) X7)) (V7 _ _ ))) (fun _=>rfl) (fun _ _=>rfl) (fun _ _ _ h=>Q0Y _ _ _ _ h) (fun r18 r19 u20=>(Vf (v:=(r19.2,u20)) rfl)))))  (fun s16=>(X2 (δ':=[sDk s16.1,.fz (Q0 r1.1),.fz (Q0 r3.1.1),.fz (Q0 r3.1.2.1),.ow (Jx s16.2),.no,.no]) (W9 ((Wx (Jo (Jj 2 rfl) (Jo (Jj 3 rfl) (Jo (Q0f (Jo (V4 4 rfl:VP _ _ (Jx s16.2)) Jp) (Q5J _)) Jp)))):VP _ _ (Yk (r3.1.1,r3.1.2.1,s16.2))) rfl)))))))))))))))))))
def Q2I (store:(Int × Int × (List Int))):Option Str:=Q2u ([((eLi Q0) ([store.1,store.2.1])),((eTu Q0) (Xi store.2.2 none (some (7 * store.1)))),((eTu Q0) (Xi store.2.2 (some (7 * store.1)) (some ((7 * store.1) + store.2.1))))]) fun rows_1=>(Q1v rows_1 ([((eTu Q0) (Xi store.2.2 (some ((7 * store.1) + store.2.1)) (some ((7 * store.1) + (5 * store.2.1))))),((eTu Q0) (Xi store.2.2 (some ((7 * store.1) + (5 * store.2.1))) none))])).bind fun v2=>((((Wm v2 (mapM (fun x4=>(((((((Yw x4)).bind fun v5=>(Wm v5 (mapM (fun x6=>(Q3s x6)) v5)).map fun v10=>(v5,v10))).bind fun l9=>(((Q0H (Q2 (" ":Str)) ((eLi eD) l9.2)).bind asS)).map fun v12=>(l9,v12))).map fun b11=>b11.2)) v2))).bind fun l13=>((Q4l ("\n":Str) l13)).map fun v15=>(l13,v15))).bind fun b14=>(some b14.2)
theorem Q9F (store:(Int × Int × (List Int))):∀ v,Q2I store = some v → Kt [.fz ((eP3 Q0 Q0 (eTu Q0)) store)] = some ((Q2 v),[.fz ((eP3 Q0 Q0 (eTu Q0)) store)]):=by
 exact Kb (X2 (δ':=[.fz (Yk store),.no,.no,.no,.no,.no,.no]) (QaC (Jj 0 rfl) (Zb (Xn (Xv 1) (Xn (Xv 2) (Xn (Xv 3) W3)))) (X2 (δ':=[.fz (Yk store),.fz (Q0 store.1),.fz (Q0 store.2.1),.fz ((eTu Q0) store.2.2),.no,.no,.no]) (Qbx (e:=(eLi eD)) (v:=[(Jx ([store.1,store.2.1])),((eTu Q0) (Xi store.2.2 none (some (7 * store.1)))),((eTu Q0) (Xi store.2.2 (some (7 * store.1)) (some ((7 * store.1) + store.2.1))))]) ((Yq (Jo ((Yq (Jo (Jj 1 rfl) (Jo (Jj 2 rfl) Jp))):VP _ _ (Jx ([store.1,store.2.1]))) (Jo (Q4o (Jj 3 rfl) Kr (Yy (Xj (Jk:VP _ _ (.int 7)) (Jj 1 rfl) (Y5 _ _ rfl))) (Q6t _ _ _)) (Jo (Q4o (Jj 3 rfl) (Yy (Xj (Jk:VP _ _ (.int 7)) (Jj 1 rfl) (Y5 _ _ rfl))) (Yy (Xj (Xj (Jk:VP _ _ (.int 7)) (Jj 1 rfl) (Y5 _ _ rfl)) (Jj 2 rfl) (Xk _ _))) (Q6t _ _ _)) Jp)))):VP _ _ ((eLi eD) ([(Jx ([store.1,store.2.1])),((eTu Q0) (Xi store.2.2 none (some (7 * store.1)))),((eTu Q0) (Xi store.2.2 (some (7 * store.1)) (some ((7 * store.1) + store.2.1))))]))) (fun rows_1=>(X2 (δ':=[.fz (Yk store),.fz (Q0 store.1),.fz (Q0 store.2.1),.fz ((eTu Q0) store.2.2),.fz ((eLi eD) rows_1),.no,.no]) (Yh (Y9 (q:=Q1v rows_1 ([((eTu Q0) (Xi store.2.2 (some ((7 * store.1) + store.2.1)) (some ((7 * store.1) + (5 * store.2.1))))),((eTu Q0) (Xi store.2.2 (some ((7 * store.1) + (5 * store.2.1))) none))])) (e:=(eLi eD)) (Jj 4 rfl) ((Yq (Jo (Q4o (Jj 3 rfl) (Yy (Xj (Xj (Jk:VP _ _ (.int 7)) (Jj 1 rfl) (Y5 _ _ rfl)) (Jj 2 rfl) (Xk _ _))) (Yy (Xj (Xj (Jk:VP _ _ (.int 7)) (Jj 1 rfl) (Y5 _ _ rfl)) (Xj (Jk:VP _ _ (.int 5)) (Jj 2 rfl) (Y5 _ _ rfl)) (Xk _ _))) (Q6t _ _ _)) (Jo (Q4o (Jj 3 rfl) (Yy (Xj (Xj (Jk:VP _ _ (.int 7)) (Jj 1 rfl) (Y5 _ _ rfl)) (Xj (Jk:VP _ _ (.int 5)) (Jj 2 rfl) (Y5 _ _ rfl)) (Xk _ _))) Kr (Q6t _ _ _)) Jp))):VP _ _ ((eLi eD) ([((eTu Q0) (Xi store.2.2 (some ((7 * store.1) + store.2.1)) (some ((7 * store.1) + (5 * store.2.1))))),((eTu Q0) (Xi store.2.2 (some ((7 * store.1) + (5 * store.2.1))) none))]))) (fun _ h=>Q0R _ _ _ h)) (fun v2=>(X2 (δ':=[.fz (Yk store),.fz (Q0 store.1),.fz (Q0 store.2.1),.fz ((eTu Q0) store.2.2),.fz ((eLi eD) v2),.no,.no]) (Yn (Zj (e:=fun _=>Q2) (V1 (Jk:VP _ _ (.str ("\n":Str))) (Xe (Q0s (e:=eD) (e':=Q2) (Q3p (Jj 4 rfl) (Q2y _)) (fun x4=>(Xv 5)) (fun x4=>(Q06 (Zj (e:=fun _=>Q2) (V1 (Jk:VP _ _ (.str (" ":Str))) (Xe (Q1S (Q7v (q:=(Yw x4)) (z:=fun v=>List.map eD v) (Jj 5 rfl) (fun _ h=>QaU _ _ h)) (fun v5=>(Q0s (e:=eD) (e':=eD) Za (fun x6=>(Xv 6)) (fun x6=>(Q4L (Q4g (q:=(Q3s x6)) (e:=eD) (Jo (Jj 6 rfl) Jp) (fun _ h=>h)) (fun _=>rfl)))))) (fun l9=>Jp))) (fun l9 _ h=>g2x (QdQ _ _ h))) (fun _=>rfl)))) (fun l13=>Jp))) (fun l13 _ h=>g2x (Q5z _ _ _ h))) (fun _=>rfl)))))))))))
def Q1c (store:(Int × Int × (List Int))):Option Bool:=((Q2I store)).bind fun r1=>((Wl store)).bind fun r3=>if ((!true) || (!decide (r3 = r1))) then (some false) else ((Kw r1)).bind fun r5=>((if true then (((((Q2E ((eP3 Q0 Q0 (eTu Q0)) r5))).bind fun v7=>((Q2E ((eP3 Q0 Q0 (eTu Q0)) store))).map fun v8=>(v7,v8))).bind fun b9=>if (decide (b9.1 = b9.2)) then (((Wl r5)).map fun r10=>(decide (r10 = r1))) else some false) else some false)).bind fun b14=>(some b14)
theorem Q8P (store:(Int × Int × (List Int))):∀ v,Q1c store = some v → K8 [.fz ((eP3 Q0 Q0 (eTu Q0)) store)] = some ((Qg v),[.fz ((eP3 Q0 Q0 (eTu Q0)) store)]):=by
 exact Kb (Yh (X3 (X0 (Jj 0 rfl) X7) (Q9F _ )) (fun r1=>(Yh (X3 (X0 (Jj 0 rfl) X7) (Q2B _ )) (fun r3=>(X2 (δ':=[.fz (Yk store),.fz (Q2 r1),.fz (Q2 r3),.no]) (Q6q (Qe7 (Q3J (Zo (Q6h (Jj 2 rfl) (rfl)))) (Zo (Xj (Jj 2 rfl) (Jj 1 rfl) (Q43 gS _ _)))) (Vi (W9 (Jk:VP _ _ (.bool false)) rfl)) (K6 (Yh (X3 (X0 (Jj 1 rfl) X7) (Q5g _ )) (fun r5=>(Yn (Q8p (v:=false) (Q6h (Jj 3 rfl) (rfl)) (Q4L (r':=fun (c13:Bool)=>((Qg c13),[.fz (Yk store),.fz (Q2 r1),.fz (Q2 r3),.fz (Yk r5)])) (Qbv (Wj (Q0G (Q4g (q:=(Q2E (Yk r5))) (e:=Q2) (Jo (Jj 3 rfl) Jp) (fun _ h=>Q8y _ _ h)) (fun v7=>(Xe (Q4g (q:=(Q2E (Yk store))) (e:=Q2) (Jo (Jj 0 rfl) Jp) (fun _ h=>Q8y _ _ h)) (fun v8=>Jp)))) (fun b9=>g2x (Q3P gS _ _))) (fun _=>rfl) (fun b9=>(Q06 (r':=fun (c11:Bool)=>((Qg c11),[.fz (Yk store),.fz (Q2 r1),.fz (Q2 r3),.fz (Yk r5)])) (Wj (Xe (X3 (X0 (Jj 3 rfl) X7) (Q2B _ )) (fun r10=>(Jo (Jj 1 rfl) Jp))) (fun r10=>g2x (Q3P gS _ _))) (fun _=>rfl))) (fun _=>rfl)) (fun _=>rfl)) rfl) (fun _=>rfl)))))))))))
def Q9z (script:List Int):Option Bool:=((Wm (rngK 4) (Q4s (fun x4 s3=>(((K0 s3)).map fun r5=>(r5.1,r5.2))) (rngK 4) (Q4N script)))).bind fun l6=>((Zg l6.2 ([(10 ^ 39:Int),((10 ^ 40:Int) - 1),(1 - (10 ^ 40:Int)),(0 - (10 ^ 39:Int)),0]))).bind fun r8=>(((((Q3L ([r8.1]) 111).bind fun v10=>(Q3L ([r8.1]) 198).map fun v11=>(v10,v11))).bind fun b12=>(Q1v l6.1 ([(2,3,b12.1),(8,12,b12.2)])).map fun v14=>(b12,v14))).bind fun b13=>(Q1v b13.2 (Xi b13.2 none (some 2))).bind fun v16=>(Q7o (fun x18 s17=>((Q1c x18)).bind fun r19=>if (!r19) then (some (Sum.inr false)) else (some (Sum.inl ()))) v16 ()).bind (Sum.elim (fun s17=>(some true)) (fun v21=>(some v21)))
theorem QdK (script:List Int):∀ v,Q9z script = some v → φ_law [.scr script] = some ((Qg v),[.scr script]):=by
 exact Kb (X2 (δ':=[.scr script,.no,.no,.no,.no,.no]) (QbB (X2 (δ':=[.scr script,sDk (Q4N script),.no,.no,.no,.no]) (Z2 (Q3w (e:=Q0) (e':=Yk) (st:=fun s3=>[.scr script,sDk s3,.no,.no,.no,.no]) (s0:=(Q4N script)) (δb:=fun x4 s3=>[.scr script,sDk s3,.no,.fz (Q0 x4),.no,.no]) (QbO (Jo (Jk:VP _ _ (.int 4)) Jp)) (fun x4 s3=>(Xv 3)) (fun x4 s3=>(Q06 (X3 (Ym 1 X7) (Q4v _ )) (fun _=>rfl)))) (fun l6=>(X2 (δ':=[.scr script,sDk l6.2,.ow ((eLi Yk) l6.1),.no,.no,.no]) (Yh (X3 (Ym 1 (X0 ((Yq (Jo (Xj (Jk:VP _ _ (.int 10)) (Jk:VP _ _ (.int 39)) (show Kv (.int 10) (.int 39) = some (.int (10 ^ 39)) from rfl)) (Jo (Xj (Xj (Jk:VP _ _ (.int 10)) (Jk:VP _ _ (.int 40)) (show Kv (.int 10) (.int 40) = some (.int (10 ^ 40)) from rfl)) (Jk:VP _ _ (.int 1)) (Xz _ _)) (Jo (Xj (Jk:VP _ _ (.int 1)) (Xj (Jk:VP _ _ (.int 10)) (Jk:VP _ _ (.int 40)) (show Kv (.int 10) (.int 40) = some (.int (10 ^ 40)) from rfl)) (Xz _ _)) (Jo (Xj (Jk:VP _ _ (.int 0)) (Xj (Jk:VP _ _ (.int 10)) (Jk:VP _ _ (.int 39)) (show Kv (.int 10) (.int 39) = some (.int (10 ^ 39)) from rfl)) (Xz _ _)) (Jo (Jk:VP _ _ (.int 0)) Jp)))))):VP _ _ (Jx ([(10 ^ 39:Int),((10 ^ 40:Int) - 1),(1 - (10 ^ 40:Int)),(0 - (10 ^ 39:Int)),0]))) X7)) (Q2q _ _ )) (fun r8=>(X2 (δ':=[.scr script,sDk r8.2,.ow ((eLi Yk) l6.1),.no,.fz (Q0 r8.1),.no]) (Yh (Zj (e:=fun _=>(eLi Yk)) (V1 (V4 2 rfl:VP _ _ ((eLi Yk) l6.1)) (Xe (Q1I (z:=fun b12=>((eLi Yk) ([(2,3,b12.1),(8,12,b12.2)]))) (Q7A (Q0G (Q1I (z:=fun (v10:(List Int))=>(Yk (2,3,v10))) (Q35 (V1 (Jk:VP _ _ (.int 2)) (V1 (Jk:VP _ _ (.int 3)) (Xe (Y9 (q:=Q3L ([r8.1]) 111) (e:=(eTu Q0)) (Qcn ((Wx (Jo (Jj 4 rfl) Jp)):VP _ _ ((eP1 Q0) r8.1)) ((Qch (fun _=>rfl)) r8.1):VP _ _ ((eTu Q0) ([r8.1]))) (Jk:VP _ _ (.int 111)) (fun _ h=>Qaj _ _ _ h)) (fun v10=>Jp))))) (fun _=>rfl)) (fun v10=>(Xe (Q1I (z:=fun (v11:(List Int))=>(Yk (8,12,v11))) (Q35 (V1 (Jk:VP _ _ (.int 8)) (V1 (Jk:VP _ _ (.int 12)) (Xe (Y9 (q:=Q3L ([r8.1]) 198) (e:=(eTu Q0)) (Qcn ((Wx (Jo (Jj 4 rfl) Jp)):VP _ _ ((eP1 Q0) r8.1)) ((Qch (fun _=>rfl)) r8.1):VP _ _ ((eTu Q0) ([r8.1]))) (Jk:VP _ _ (.int 198)) (fun _ h=>Qaj _ _ _ h)) (fun v11=>Jp))))) (fun _=>rfl)) (fun v11=>Jp))))) (fun _=>rfl)) (fun b12=>Jp))) (fun b12 _ h=>g2x (Q0R _ _ _ h))) (fun b13=>(Zl (X2 (δ':=[.scr script,sDk r8.2,.fz ((eLi Yk) b13.2),.no,.fz (Q0 r8.1),.no]) (Zz (Q5a (Y9 (q:=Q1v b13.2 (Xi b13.2 none (some 2))) (e:=(eLi Yk)) (Jj 2 rfl) (Q4o (Jj 2 rfl) Kr (Yy (Jk:VP _ _ (.int 2))) (Q4X _ _ _)) (fun _ h=>Q0R _ _ _ h)) (fun _=>Q2y _)) (fun v16=>(QbV (e:=Yk) (st:=fun s17=>[.scr script,sDk r8.2,.fz ((eLi Yk) b13.2),.no,.fz (Q0 r8.1),.no]) (s0:=()) (rv:=fun v20=>(Qg v20)) (ro:=fun v20=>[.scr script]) Za (fun x18 s17=>(Xv 5)) (fun x18 s17=>(X2 (δ':=[.scr script,sDk r8.2,.fz ((eLi Yk) b13.2),.no,.fz (Q0 r8.1),.fz (Yk x18)]) (Q47 (Q0L (Q24 (X3 (X0 (Jj 5 rfl) X7) (Q8P _ )) (fun _=>rfl))) (fun _=>rfl) (fun r19=>(Vi (X2 (δ':=[.scr script,sDk r8.2,.fz ((eLi Yk) b13.2),.no,.fz (Q0 r8.1),.fz (Yk x18)]) (W9 (Jk:VP _ _ (.bool false)) rfl)))) (fun r19=>(K6 (Vf (v:=(Sum.inl ())) rfl)))))) (fun _=>⟨_,rfl,rfl⟩) (fun s17=>(X2 (δ':=[.scr script,sDk r8.2,.fz ((eLi Yk) b13.2),.no,.fz (Q0 r8.1),.no]) (W9 (Jk:VP _ _ (.bool true)) rfl)))))))))))))))))))
end K04
namespace K04
open PySem PySem.Spec PyProof.Rows L2 Z
variable {ι τ σ ρ:Type}
abbrev St:=Int × Int × List Int
structure WF (st:St):Prop where
 h1:2 ≤ st.1
 h2:st.1 ≤ 8
 b1:3 ≤ st.2.1
 b2:st.2.1 ≤ 12
 n:(st.2.2.length:Int) = 7 * st.1 + 5 * st.2.1 + 82
def cel (cs:List Int) (i:Int):Int:=cs.getD i.toNat 0
def hK (st:St) (x:Int):Int:=cel st.2.2 (7 * (x - 1) + 0)
def hL (st:St) (x:Int):Int:=cel st.2.2 (7 * (x - 1) + 2)
def hS (st:St) (x j:Int):Int:=cel st.2.2 (7 * (x - 1) + 4 + j)
def meas (k l x:Int):Bool:=decide ((k = 2 ∨ (k = 1 ∧ 2 < x)) ∧ 0 ≤ l ∧ l ≤ 12 ∧ (k = 2 → l % 2 = 0))
def need (l x j:Int):Bool:=decide (x = 2 ∨ 4 * j < l)
def mayB (b x j s:Int):Bool:=decide ((x = 2 ∧ s = j + 1) ∨ (x ≠ 2 ∧ 4 ≤ s ∧ s ≤ b))
def hold (st:St) (x j:Int):Bool:=need (hL st x) x j && mayB st.2.1 x j (hS st x j)
def m3 (st:St) (x:Int):List Int:=if meas (hK st x) (hL st x) x then [0,1,2] else []
def hj (st:St) (x:Int):List Int:=(m3 st x).filter (hold st x)
def hq (st:St) (x j:Int):Int × Int × Int × Int:=(x,j,hS st x j,max 0 (min 4 (hL st x - 4 * j)))
end K04
namespace K04
open PySem PySem.Spec PyProof.Rows L2 Z
variable {ι τ σ ρ:Type}
theorem Q7T {a:Int} (h0:0 ≤ a) (h1:a ≤ 1000000000000000):Wq a = true:=by
 unfold Wq
 simp
 omega
theorem Q3u {k:Dk} {xs:List Int} {P:Int × Dk → Prop} (hk:k.cs.length ≤ 63) (h0:0 < xs.length) (h1:xs.length < 1000) (h:∀ x ∈ xs,∀ k':Dk,k'.cs.length ≤ 63 → P (x,k')):Wt (Zg k xs) P:=by
 unfold Zg Wo
 repeat (first | (with_reducible refine Jv ?_) | (with_reducible refine Xp ?_) | (with_reducible refine Xm ?_) | (with_reducible refine Xd (by assumption) (by omega) (by omega) ?_; intro _ _ _ _ _; dsimp only))
 refine Q6n (by assumption) (by assumption) fun x hx=>?_
 exact Xc (h x hx _ (by assumption))
theorem Qa4 {k:Dk} {P:(Int × Int) × Dk → Prop} (hk:k.cs.length ≤ 63) (h:∀ a b k',2 ≤ a → a ≤ 8 → 3 ≤ b → b ≤ 12 → k'.cs.length ≤ 63 → P ((a,b),k')):Wt (Q1q k) P:=by
 unfold Q1q boI
 repeat (first | (with_reducible refine Jv ?_) | (with_reducible refine Xp ?_) | (with_reducible refine Xm ?_) | (with_reducible refine Xd (by assumption) (by omega) (by omega) ?_; intro _ _ _ _ _; dsimp only))
 refine Q6n (by split <;> split <;> omega) (by simp only [Qe,Qu]; split <;> split <;> simp_all <;> omega) fun x hx=>?_
 refine Xc ?_
 obtain ⟨a,b⟩:=x
 simp only [Q7,Qn,or_false,Prod.mk.injEq] at hx
 exact h _ _ _ (by omega) (by omega) (by omega) (by omega) (by assumption)
def Bd (B:Int) (st:St):Prop:=∀ c ∈ st.2.2,-B ≤ c ∧ c ≤ B
abbrev Mo:=List (Int × (Int × List D))
def Zx (k:Int) (Xu:List D):Int:=(k * (Xu.length:Int) + 3) / 4
theorem Q2g {k:Int} {Xu:List D} (h0:0 ≤ k) (h1:k ≤ 1000):Wb k Xu = some (Zx k Xu):=by
 obtain ⟨a,e,rfl⟩:Wt (Q04 k (Wo Xu)) fun a=>a = k * (Xu.length:Int):=Qa7 (.inl (Q7T (by omega) (by omega))) rfl
 unfold Wb
 rw [e]
 rfl
theorem Q9N {k:Int} {Xu:List D} (h0:0 ≤ k):0 ≤ Zx k Xu:=by
 unfold Zx
 have:0 ≤ k * (Xu.length:Int):=Int.mul_nonneg h0 (by omega)
 omega
def nk (m:Mo) (x:Int):Int:=match Ve m x with | some v=>Zx v.1 v.2 | none=>0
def sm (m:Mo) (xs:List Int):Int:=((xs.filter fun x=>!decide (x = 2)).map (nk m)).sum
def ks (m:Mo):List Int:=m.map (·.1)
theorem W1 (m:Mo) (x:Int) (xs:List Int):sm m (x :: xs) = (if x = 2 then 0 else nk m x) + sm m xs:=by
 unfold sm
 rw [List.filter_cons]
 by_cases c:x = 2 <;> simp [c]
theorem Q9S (m:Mo):sm m [] = 0:=rfl
theorem Qc3 (m:Mo) {xs ys:List Int} (p:xs.Perm ys):sm m xs = sm m ys:=by
 induction p with
 | nil=>rfl
 | cons x _ ih=>rw [W1,W1,ih]
 | swap x y l=>simp only [W1]; omega
 | trans _ _ a b=>exact a.trans b
theorem Q49 (m m':Mo):∀ xs:List Int,(∀ x ∈ xs,nk m x = nk m' x) → sm m xs = sm m' xs
 | [],_=>rfl
 | x :: xs,h=>by rw [W1,W1,h x (Q5 ..),Q49 m m' xs fun y hy=>h y (Q4 _ hy)]
theorem Q9x (m m':Mo) (f:Int):∀ xs:List Int,xs.Nodup → (∀ x ∈ xs,x ≠ f → nk m x = nk m' x) → f ∈ xs → sm m' xs = sm m xs + (if f = 2 then 0 else nk m' f - nk m f)
 | [],_,_,h=>nomatch h
 | x :: xs,nd,h,hf=>by
  rw [W1,W1]
  have nd':=List.nodup_cons.mp nd
  by_cases c:x = f
  ·subst c
   rw [Q49 m m' xs fun y hy=>h y (Q4 _ hy) (fun e=>nd'.1 (e ▸ hy))]
   split <;> omega
  ·have hf':f ∈ xs:=by
    rcases Q7.mp hf with e | e
    ·exact absurd e.symm c
    ·exact e
   rw [Q9x m m' f xs nd'.2 (fun y hy=>h y (Q4 _ hy)) hf',h x (Q5 ..) c]
   omega
theorem Zh (m:Mo) (k:Int) (v:Int × List D) (x:Int):Ve (W5 m k v) x = if x = k then some v else Ve m x:=by
 unfold W5
 by_cases c:m.any (fun p=>decide (p.1 = k)) = true
 ·rw [if_pos c]
  have eq:∀ p:Int × (Int × List D),(if p.1 = k then (p.1,v) else p).1 = p.1:=fun p=>by split <;> rfl
  have e0:(m.map fun p=>if p.1 = k then (p.1,v) else p).find? (fun p=>decide (p.1 = x)) = (m.find? fun p=>decide (p.1 = x)).map fun p=>if p.1 = k then (p.1,v) else p:=by
   rw [List.find?_map]
   congr 1
   congr 1
   funext p
   simp only [Function.comp,eq]
  unfold Ve
  rw [e0]
  cases e1:m.find? (fun p=>decide (p.1 = x)) with
  | none =>
   by_cases e:x = k
   ·subst e
    obtain ⟨p,hp,q⟩:=List.any_eq_true.mp c
    exact absurd q (List.find?_eq_none.mp e1 p hp)
   ·rw [if_neg e]; rfl
  | some p =>
   have hp0:=List.find?_some e1
   have hp:=of_decide_eq_true hp0
   by_cases e:x = k
   ·rw [if_pos e]
    simp [hp,e]
   ·rw [if_neg e]
    simp [hp,e]
 ·rw [if_neg c]
  unfold Ve
  rw [List.find?_append]
  by_cases e:x = k
  ·subst e
   have:m.find? (fun p=>decide (p.1 = x)) = none:=by
    rw [List.find?_eq_none]
    intro p hp q
    exact c (List.any_eq_true.mpr ⟨p,hp,q⟩)
   rw [this,if_pos rfl]
   simp
  ·rw [if_neg e]
   have:([(k,v)]:Mo).find? (fun p=>decide (p.1 = x)) = none:=by
    rw [List.find?_eq_none]
    intro p hp q
    rw [Qj] at hp
    subst hp
    exact e (of_decide_eq_true q).symm
   rw [this,Option.or_none]
def Row (h:Int) (d:D):Prop:=∃ a c:Int,d = .tuple [.int a,.int c] ∧ 1 ≤ c ∧ c ≤ h ∧ 0 ≤ a ∧ a ≤ 100
structure MI (h b L:Int) (m:Mo):Prop where
 nd:(ks m).Nodup
 k1:1 ∈ ks m
 k2:2 ∈ ks m
 kb:∀ x ∈ ks m,1 ≤ x ∧ x ≤ h
 ent:∀ p ∈ m,(p.2.1 = 2 ∧ ∀ d ∈ p.2.2,Row h d) ∨ (p.2.1 = 1 ∧ ∀ d ∈ p.2.2,∃ a:Int,d = .int a ∧ 0 ≤ a ∧ a ≤ 100)
 len:∀ p ∈ m,(p.2.2.length:Int) ≤ L
 lf:sm m (ks m) ≤ b - 3
 ml:m.length ≤ 8
def FO (m:Mo) (fs:List Int):Prop:=∀ f ∈ fs,∃ Xu,Ve m f = some (2,Xu)
theorem MI.mon {h b L L':Int} {m:Mo} (i:MI h b L m) (l:L ≤ L'):MI h b L' m:=⟨i.nd,i.k1,i.k2,i.kb,i.ent,fun p hp=>by have:=i.len p hp; omega,i.lf,i.ml⟩
theorem MI.kind {h b L:Int} {m:Mo} (i:MI h b L m) {p:Int × (Int × List D)} (hp:p ∈ m):0 ≤ p.2.1 ∧ p.2.1 ≤ 2:=by
 rcases i.ent p hp with ⟨e,_⟩ | ⟨e,_⟩ <;> rw [e] <;> omega
theorem Q3T {m:Mo} {x:Int} {v:Int × List D} (e:Ve m x = some v):nk m x = Zx v.1 v.2:=by
 unfold nk
 rw [e]
theorem MI.nk_nn {h b L:Int} {m:Mo} (i:MI h b L m) (x:Int):0 ≤ nk m x:=by
 unfold nk
 split
 ·rename_i v e
  exact Q9N (i.kind (Ka e)).1
 ·omega
theorem Q8z {h b L:Int} {m:Mo} (i:MI h b L m):Q0k m b = some (b - 3 - sm m (ks m)):=by
 have hl:=i.ml
 unfold Q0k
 have e:Wm (m.map (·.1)) (Q2K (fun x1=>(some (!decide (x1 = 2)))) (fun x1=>(((((((Ve m x1)).bind fun v2=>((Ve m x1)).map fun v3=>(v2,v3))).bind fun b4=>(Wb b4.1.1 b4.2.2).map fun v6=>(b4,v6))).map fun r5=>r5.2)) (m.map (·.1))) = some (((ks m).filter fun x=>!decide (x = 2)).map (nk m)):=by
  unfold Wm
  rw [if_pos (by rw [Q3]; have:=Kj; omega)]
  refine Q5B _ _ _ (fun _ _=>rfl) fun x hx _=>?_
  obtain ⟨v,e⟩:=Q4h hx
  have:=i.kind (Ka e)
  dsimp only at this
  rw [e]
  simp only [Q1,Qb]
  rw [Q2g (by omega) (by omega),Q3T e]
  rfl
 rw [e]
 rfl
theorem MI.new {h b L:Int} {m:Mo} (i:MI h b L m) {x:Int} {v:Int × List D} (hx:x ∉ ks m) (h1:3 ≤ x) (h2:x ≤ h) (hv:(v.1 = 2 ∧ v.2 = []) ∨ (v.1 = 1 ∧ ∀ d ∈ v.2,∃ a:Int,d = .int a ∧ 0 ≤ a ∧ a ≤ 100)) (hl:(v.2.length:Int) ≤ L) (hn:sm m (ks m) + Zx v.1 v.2 ≤ b - 3) (hm:m.length < 8):MI h b L (W5 m x v) ∧ ks (W5 m x v) = ks m ++ [x]:=by
 have e:W5 m x v = m ++ [(x,v)]:=Q6j _ _ _ hx
 have ek:ks (W5 m x v) = ks m ++ [x]:=by rw [e]; simp [ks]
 refine ⟨⟨?_,?_,?_,?_,?_,?_,?_,?_⟩,ek⟩
 ·rw [ek,List.nodup_append]
  exact ⟨i.nd,by simp,fun a ha c hc=>by rw [Qj] at hc; subst hc; exact fun q=>hx (q ▸ ha)⟩
 ·rw [ek]; exact Q9.mpr (.inl i.k1)
 ·rw [ek]; exact Q9.mpr (.inl i.k2)
 ·intro y hy
  rw [ek] at hy
  rcases Q9.mp hy with hy | hy
  ·exact i.kb y hy
  ·rw [Qj] at hy; omega
 ·intro p hp
  rcases Q0V hp with rfl | hp
  ·rcases hv with ⟨a,c⟩ | hv
   ·exact .inl ⟨a,fun d hd=>by rw [c] at hd; exact nomatch hd⟩
   ·exact .inr hv
  ·exact i.ent p hp
 ·intro p hp
  rcases Q0V hp with rfl | hp
  ·exact hl
  ·exact i.len p hp
 ·rw [ek]
  have e1:∀ (ys:List Int),sm (W5 m x v) (ys ++ [x]) = sm (W5 m x v) ys + Zx v.1 v.2:=by
   intro ys
   induction ys with
   | nil =>
    rw [List.nil_append,W1,Q9S,if_neg (by omega),Q3T (v:=v) (by rw [Zh,if_pos rfl])]
    omega
   | cons y ys ih=>rw [List.cons_append,W1,W1,ih]; omega
  rw [e1,Q49 (W5 m x v) m (ks m) fun y hy=>by
   unfold nk
   rw [Zh,if_neg (fun q:y = x=>hx (q ▸ hy))]]
  exact hn
 ·have:=Q3S m x v
  omega
theorem MI.more {h b L:Int} {m:Mo} (i:MI h b L m) {f:Int} {Xu more:List D} (hf:Ve m f = some (2,Xu)) (hr:∀ d ∈ more,Row h d) (hl:(more.length:Int) ≤ L + 1) (hn:f = 2 ∨ Zx 2 more - Zx 2 Xu ≤ b - 3 - sm m (ks m)):MI h b (L + 1) (W5 m f (2,more)) ∧ ks (W5 m f (2,more)) = ks m:=by
 have hm:=Ka hf
 have hk:f ∈ ks m:=Qp.mpr ⟨_,hm,rfl⟩
 have ek:ks (W5 m f (2,more)) = ks m:=Q59 _ _ _ hk
 refine ⟨⟨?_,?_,?_,?_,?_,?_,?_,?_⟩,ek⟩
 ·rw [ek]; exact i.nd
 ·rw [ek]; exact i.k1
 ·rw [ek]; exact i.k2
 ·rw [ek]; exact i.kb
 ·intro p hp
  rcases Q0V hp with rfl | hp
  ·exact .inl ⟨rfl,hr⟩
  ·exact i.ent p hp
 ·intro p hp
  rcases Q0V hp with rfl | hp
  ·exact hl
  ·have:=i.len p hp
   omega
 ·rw [ek,Q9x m _ f (ks m) i.nd (fun y hy hy2=>by unfold nk; rw [Zh,if_neg hy2]) hk]
  have e1:nk (W5 m f (2,more)) f = Zx 2 more:=Q3T (v:=(2,more)) (by rw [Zh,if_pos rfl])
  have e2:nk m f = Zx 2 Xu:=Q3T hf
  have:=i.lf
  rw [e1,e2]
  split <;> omega
 ·have e3:(ks (W5 m f (2,more))).length = (ks m).length:=by rw [ek]
  unfold ks at e3
  rw [Q3,Q3] at e3
  have:=i.ml
  omega
theorem FO.put {m:Mo} {fs:List Int} (o:FO m fs) (f:Int) (Xu:List D):FO (W5 m f (2,Xu)) fs:=by
 intro g hg
 rw [Zh]
 by_cases c:g = f
 ·exact ⟨_,if_pos c⟩
 ·rw [if_neg c]
  exact o g hg
theorem FO.new {m:Mo} {fs:List Int} (o:FO m fs) {f:Int} {v:Int × List D} (hf:f ∉ ks m):FO (W5 m f v) fs:=by
 intro g hg
 obtain ⟨r,e⟩:=o g hg
 have:g ≠ f:=fun q=>hf (q ▸ Qp.mpr ⟨_,Ka e,rfl⟩)
 rw [Zh,if_neg this]
 exact ⟨r,e⟩
theorem QbR (a b:Int):eqD (.int a) (.int b) = some (decide (a = b)):=by
 have h:=Q3P gI a b
 unfold bD at h
 cases e:eqD (.int a) (.int b) with
 | none=>rw [e] at h; cases h
 | some q =>
  rw [e] at h
  injection h with h
  injection h with h
  rw [h]
theorem Q6l {h:Int}:∀ (ds:List D),(∀ d ∈ ds,Row h d) → Jc ds = true ∧ Qv ds ≤ 1
 | [],_=>⟨rfl,Ja _⟩
 | d :: ds,H=>by
  obtain ⟨a,c,rfl,_⟩:=H d (Q5 ..)
  obtain ⟨p,q⟩:=Q6l ds fun x hx=>H x (Q4 _ hx)
  refine ⟨?_,?_⟩
  ·simp only [Jc,p]
   rfl
  ·simp only [Qv,PyData.depth]
   omega
theorem Q8n {h:Int} {ds:List D} {P:List D → Prop} (H:∀ d ∈ ds,Row h d) (p:∀ es,es.Perm ds → P es):Wt (Q4d ds) P:=by
 have h1:Q1Z ds = true:=by
  unfold Q1Z
  rw [Qq]
  intro d hd
  rw [Qq]
  intro e he
  obtain ⟨a,c,rfl,_⟩:=H d hd
  obtain ⟨a2,c2,rfl,_⟩:=H e he
  rfl
 have h2:Q39 ds = true:=by
  unfold Q39
  rw [J8]
  left
  rw [Qq]
  intro d hd
  obtain ⟨a,c,rfl,_⟩:=H d hd
  rfl
 have h3:ds.all (fun d=>decide (d.depth ≤ 64)) = true:=by
  rw [Qq]
  intro d hd
  obtain ⟨a,c,rfl,_⟩:=H d hd
  rfl
 refine ⟨Q76 ds,?_,p _ (List.mergeSort_perm _ _)⟩
 unfold Q4d
 rw [h1,h2,h3]
 rfl
theorem Q6v {h b L:Int} {m:Mo} {fs:List Int} {f name x:Int} {P:Bool × Mo → Prop} (i:MI h b L m) (o:FO m fs) (hf:f ∈ fs) (x1:1 ≤ x) (x2:x ≤ h) (n0:0 ≤ name) (n1:name ≤ 100) (hL:L ≤ 1000) (hP:∀ ok m',MI h b (L + 1) m' → (∀ gs,FO m gs → FO m' gs) → ks m' = ks m → P (ok,m')):Wt (Z6 m b f name x) P:=by
 obtain ⟨Xu,ef⟩:=o f hf
 have hm:=Ka ef
 have hl:=i.len _ hm
 dsimp only at hl
 have hr:∀ d ∈ Xu,Row h d:=by
  rcases i.ent _ hm with ⟨_,q⟩ | ⟨q,_⟩
  ·exact q
  ·exact absurd (show (2:Int) = 1 from q) (by decide)
 unfold Z6 Wo
 rw [ef,Q1]
 repeat (first | (with_reducible refine Jv ?_) | (with_reducible refine Xp ?_) | (with_reducible refine Xm ?_) | (with_reducible refine Xd (by assumption) (by omega) (by omega) ?_; intro _ _ _ _ _; dsimp only))
 refine Qan (by simp; omega) ?_
 have hr2:∀ d ∈ Xu ++ [((eP2 Q0 Q0) (name,x))],Row h d:=by
  intro d hd
  rcases Q9.mp hd with hd | hd
  ·exact hr d hd
  ·rw [Qj] at hd
   subst hd
   exact ⟨_,_,rfl,x1,x2,n0,n1⟩
 repeat (first | (with_reducible refine Jv ?_) | (with_reducible refine Xp ?_) | (with_reducible refine Xm ?_) | (with_reducible refine Xd (by assumption) (by omega) (by omega) ?_; intro _ _ _ _ _; dsimp only))
 refine Q8n hr2 fun more pm=>?_
 have hm1:(more.length:Int) ≤ L + 1:=by rw [pm.length_eq,Qs]; simp; omega
 have hmr:∀ d ∈ more,Row h d:=fun d hd=>hr2 d (pm.mem_iff.mp hd)
 dsimp only
 rw [Q2g (by omega) (by omega),Q2g (by omega) (by omega),Q8z i]
 simp only [Q1,Qb]
 repeat (first | (with_reducible refine Jv ?_) | (with_reducible refine Xp ?_) | (with_reducible refine Xm ?_) | (with_reducible refine Xd (by assumption) (by omega) (by omega) ?_; intro _ _ _ _ _; dsimp only))
 have same:P (false,m):=hP _ _ (i.mon (by omega)) (fun _ h=>h) rfl
 by_cases c1:(Xu.length:Int) < 6
 ·simp only [decide_eq_true c1,if_true]
  refine Zm (fun c2=>?_) (fun _=>Xc (by simpa using Xc same))
  have c2':=of_decide_eq_true c2
  obtain ⟨l,el,hl'⟩:Wt (Wm Xu (Q2K (fun x12=>(((((Ye x12 (Q0 0))).bind fun v13=>((eqD v13 (Q0 name))).map fun v15=>(v13,v15))).map fun b14=>b14.2)) (fun x12=>(some x12)) Xu)) fun l=>∀ d ∈ l,Row h d:=by
   refine Q2L (by omega) (QbY (fun d=>match d with | .tuple [.int a,_]=>decide (a = name) | _=>false) id (fun d hd=>?_) (fun _ _ _=>rfl) fun d hd=>?_)
   ·obtain ⟨a,c,rfl,_⟩:=hr d hd
    have:eqD (.int a) (.int name) = some (decide (a = name)):=QbR a name
    show ((eqD (.int a) (.int name)).map fun v15=>((Q0 a:D),v15)).map (fun b14=>b14.2) = _
    rw [this]
    rfl
   ·rw [List.map_id] at hd
    exact hr d (List.mem_filter.mp hd).1
  rw [el,Q1]
  have es:∃ q,eqD ((eLi eD) l) ((eLi eD) ([])) = some q:=by
   have q:=Q6l l hl'
   have s1:shp ((eLi eD) l) = true:=by
    unfold shp eLi
    have:l.map eD = l:=List.map_id' _
    rw [this]
    rw [Q6]
    exact ⟨by simpa only [PyData.plain] using q.1,decide_eq_true (by simp only [PyData.depth]; have:=q.2; omega)⟩
   have s2:shp ((eLi eD) ([])) = true:=rfl
   unfold eqD
   rw [s1,s2]
   exact ⟨_,rfl⟩
  obtain ⟨q,eq⟩:=es
  rw [eq]
  simp only [Qb]
  refine Xc ?_
  refine Zm (fun _=>?_) (fun _=>Xc same)
  have hml:=i.ml
  refine Jv (Q5p (by omega) (Xc ?_))
  have mm:=MI.more i ef hmr hm1 (.inr c2')
  exact hP _ _ mm.1 (fun gs o=>o.put _ _) mm.2
 ·simp only [decide_eq_false c1,if_false,Qw]
  exact Xc (by simpa using Xc same)
structure LI (h b:Int) (n:Nat) (s:Dk × Mo × List Int × List Int):Prop where
 ok:s.1.cs.length ≤ 63
 fu:s.2.2.2.length < n
 nd:s.2.2.2.Nodup
 sp:∀ x ∈ s.2.2.2,3 ≤ x ∧ x ≤ h ∧ x ∉ ks s.2.1
 mi:MI h b (60 - 4 * (s.2.2.2.length:Int)) s.2.1
 fo:FO s.2.1 (2 :: s.2.2.1)
 f0:0 < s.2.2.1.length
 f8:s.2.2.1.length + s.2.2.2.length ≤ 8
 m8:s.2.1.length + s.2.2.2.length ≤ 8
theorem Qak {xs:List Int} (nd:xs.Nodup) {i:Nat} (hi:i < xs.length):(xs.eraseIdx i).Nodup ∧ (∀ x ∈ xs.eraseIdx i,x ∈ xs) ∧ xs[i]'hi ∉ xs.eraseIdx i:=by
 refine ⟨nd.sublist (List.eraseIdx_sublist ..),fun x hx=>(List.eraseIdx_sublist ..).mem hx,fun q=>?_⟩
 obtain ⟨j,hj,hne,e⟩:=List.mem_eraseIdx_iff_getElem.mp q
 exact hne ((List.getElem_inj nd).mp e)
theorem Qa2 {k:Dk} {h b:Int} (hk:k.cs.length ≤ 63) (h2:2 ≤ h) (h8:h ≤ 8) (b3:3 ≤ b) {P:Mo × Dk → Prop} (hP:∀ m k',MI h b 60 m → k'.cs.length ≤ 63 → P (m,k')):Wt (Q1g k h b) P:=by
 unfold Q1g Wo
 repeat (first | (with_reducible refine Jv ?_) | (with_reducible refine Xp ?_) | (with_reducible refine Xm ?_) | (with_reducible refine Xd (by assumption) (by omega) (by omega) ?_; intro _ _ _ _ _; dsimp only))
 refine Q9Z (by omega) (by omega) (by omega) (by omega) ?_
 repeat (first | (with_reducible refine Jv ?_) | (with_reducible refine Xp ?_) | (with_reducible refine Xm ?_) | (with_reducible refine Xd (by assumption) (by omega) (by omega) ?_; intro _ _ _ _ _; dsimp only))
 refine Q6K (LI h b) (P:=fun s=>Wt (some (s.2.1,s.1)) P) ?_ ?_
 ·refine ⟨hk,?_,Q7d _ _,?_,?_,?_,by simp,?_,?_⟩
  ·simp only [Yf]; omega
  ·intro x hx
   have:=Q6m hx
   refine ⟨by omega,by omega,?_⟩
   simp [ks]
   omega
  ·refine MI.mon (L:=0) ⟨?_,?_,?_,?_,?_,?_,?_,?_⟩ (by simp only [Yf]; omega)
   ·simp [ks]
   ·simp [ks]
   ·simp [ks]
   ·intro x hx
    simp [ks] at hx
    omega
   ·intro p hp
    simp at hp
    rcases hp with rfl | rfl <;> exact .inl ⟨rfl,fun d hd=>nomatch hd⟩
   ·intro p hp
    simp at hp
    rcases hp with rfl | rfl <;> simp
   ·have:sm [(1,(2,[])),(2,(2,[]))] (ks [(1,(2,[])),(2,(2,[]))]) = 0:=rfl
    rw [this]
    omega
   ·simp
  ·intro f hf
   simp at hf
   rcases hf with rfl | rfl <;> exact ⟨[],rfl⟩
  ·simp only [Yf,Qe,Qu]; omega
  ·simp only [Yf,Qe,Qu]; omega
 ·rintro n ⟨k,m,fs,sp⟩ ⟨ok,fu,nd,hsp,mi,fo,f0,f8,m8⟩
  dsimp only at ok fu nd hsp mi fo f0 f8 m8
  refine Xc ?_
  by_cases c:sp = []
  ·rw [if_neg (by simp [c])]
   exact ⟨by omega,Xc (hP _ _ (mi.mon (by omega)) ok)⟩
  ·rw [if_pos (by simp [c])]
   have sp0:0 < sp.length:=List.length_pos_iff.mpr c
   obtain ⟨n,rfl⟩:∃ n',n = n' + 1:=⟨n - 1,by omega⟩
   refine ⟨n,rfl,?_⟩
   dsimp only
   repeat (first | (with_reducible refine Jv ?_) | (with_reducible refine Xp ?_) | (with_reducible refine Xm ?_) | (with_reducible refine Xd (by assumption) (by omega) (by omega) ?_; intro _ _ _ _ _; dsimp only))
   rename_i r0 kr hr0 hr1 hkr
   refine Q6C hr0 hr1 (by omega) fun hh=>?_
   obtain ⟨e1,e2,e3⟩:=Qak nd hh
   have e4:=List.length_eraseIdx_of_lt hh
   have hx:=hsp _ (List.getElem_mem hh)
   revert e1 e2 e3 e4 hx
   generalize sp[r0.toNat]'hh = x
   generalize sp.eraseIdx r0.toNat = sp'
   intro e1 e2 e3 e4 hx
   dsimp only
   repeat (first | (with_reducible refine Jv ?_) | (with_reducible refine Xp ?_) | (with_reducible refine Xm ?_) | (with_reducible refine Xd (by assumption) (by omega) (by omega) ?_; intro _ _ _ _ _; dsimp only))
   rename_i way kw hw0 hw1 hkw
   refine Q3u hkw (by simp) (by simp) fun t ht k3 hk3=>?_
   dsimp only
   repeat (first | (with_reducible refine Jv ?_) | (with_reducible refine Xp ?_) | (with_reducible refine Xm ?_) | (with_reducible refine Xd (by assumption) (by omega) (by omega) ?_; intro _ _ _ _ _; dsimp only))
   refine Q3u hk3 f0 (by omega) fun f hf k4 hk4=>?_
   dsimp only
   have hsp':∀ y ∈ sp',3 ≤ y ∧ y ≤ h ∧ y ∉ ks m:=fun y hy=>hsp y (e2 y hy)
   refine Zm (fun _=>?_) (fun _=>?_)
   ·refine Xc ⟨hk4,?_,e1,hsp',mi.mon ?_,fo,f0,?_,?_⟩ <;> dsimp only <;> omega
   ·repeat (first | (with_reducible refine Jv ?_) | (with_reducible refine Xp ?_) | (with_reducible refine Xm ?_) | (with_reducible refine Xd (by assumption) (by omega) (by omega) ?_; intro _ _ _ _ _; dsimp only))
    rename_i n13 k13 hn0 hn1 hk13
    refine Q2C (by omega) (by omega) ?_
    dsimp only
    repeat (first | (with_reducible refine Jv ?_) | (with_reducible refine Xp ?_) | (with_reducible refine Xm ?_) | (with_reducible refine Xd (by assumption) (by omega) (by omega) ?_; intro _ _ _ _ _; dsimp only))
    refine Q2L (by rw [Yf]; omega) (Q29 (fun y=>0 ≤ y ∧ y < 100) (fun _ s=>s.cs.length ≤ 63) hk13 (fun y ys s hs=>?_) fun ws k5 hws hw100 hk5=>?_)
    ·repeat (first | (with_reducible refine Jv ?_) | (with_reducible refine Xp ?_) | (with_reducible refine Xm ?_) | (with_reducible refine Xd (by assumption) (by omega) (by omega) ?_; intro _ _ _ _ _; dsimp only))
     exact ⟨⟨by assumption,by assumption⟩,by assumption⟩
    ·rw [Yf] at hws
     dsimp only
     repeat (first | (with_reducible refine Jv ?_) | (with_reducible refine Xp ?_) | (with_reducible refine Xm ?_) | (with_reducible refine Xd (by assumption) (by omega) (by omega) ?_; intro _ _ _ _ _; dsimp only))
     have hv:Wt (if decide (way < 3) = true then some ((2:Int),([]:List D)) else (Q0k m b).map fun r27=>(1,List.map Q0 (Xi ws none (some (4 * r27))))) (fun v=>((v.1 = 2 ∧ v.2 = []) ∨ (v.1 = 1 ∧ ∀ d ∈ v.2,∃ a:Int,d = .int a ∧ 0 ≤ a ∧ a ≤ 100)) ∧ (v.2.length:Int) ≤ 12 ∧ sm m (ks m) + Zx v.1 v.2 ≤ b - 3 ∧ (way < 3 → v = (2,[]))):=by
      have lf:=mi.lf
      refine Zm (fun _=>Xc ⟨.inl ⟨rfl,rfl⟩,by simp,?_,fun _=>rfl⟩) (fun c=>?_)
      ·have:Zx 2 [] = 0:=rfl
       dsimp only
       rw [this]
       omega
      ·rw [Q8z mi]
       refine ⟨_,rfl,.inr ⟨rfl,fun d hd=>?_⟩,?_,?_,fun q=>?_⟩
       ·obtain ⟨a,ha,rfl⟩:=Qp.mp hd
        have:=hw100 a (Q8b ha)
        exact ⟨a,rfl,by omega,by omega⟩
       ·dsimp only
        rw [Q1O (by omega),Q3,Je]
        omega
       ·unfold Zx
        dsimp only
        rw [Q1O (by omega),Q3,Je]
        omega
       ·exact absurd q (by simpa using c)
     refine hv.mon fun v hv=>?_
     obtain ⟨v1,v2,v3,v4⟩:=hv
     repeat (first | (with_reducible refine Jv ?_) | (with_reducible refine Xp ?_) | (with_reducible refine Xm ?_) | (with_reducible refine Xd (by assumption) (by omega) (by omega) ?_; intro _ _ _ _ _; dsimp only))
     refine Q5p (by omega) ?_
     obtain ⟨mu,kk⟩:=mi.new (v:=v) hx.2.2 hx.1 hx.2.1 v1 (by omega) v3 (by omega)
     have fu1:FO (W5 m x v) (2 :: if way < 3 then fs ++ [x] else fs):=by
      have f1:FO (W5 m x v) (2 :: fs):=fo.new hx.2.2
      split
      ·rename_i c3
       intro g hg
       by_cases cg:g ∈ 2 :: fs
       ·exact f1 g cg
       ·have:g = x:=by
         rcases Q7.mp hg with q | q
         ·exact absurd (Q7.mpr (.inl q)) cg
         ·rcases Q9.mp q with q | q
          ·exact absurd (Q7.mpr (.inr q)) cg
          ·exact Qj.mp q
        subst this
        rw [Zh,if_pos rfl,v4 c3]
        exact ⟨_,rfl⟩
      ·exact f1
     have lu:=Q3S m x v
     revert mu kk fu1 lu
     generalize W5 m x v = u
     intro mu kk fu1 lu
     have sub:∀ g ∈ 2 :: fs,g ∈ 2 :: if way < 3 then fs ++ [x] else fs:=by
      intro g hg
      split
      ·rcases Q7.mp hg with q | q
       ·exact Q7.mpr (.inl q)
       ·exact Q7.mpr (.inr (Q9.mpr (.inl q)))
      ·exact hg
     revert fu1 sub
     generalize hgs:(2 :: if way < 3 then fs ++ [x] else fs) = gs
     intro fu1 sub
     repeat (first | (with_reducible refine Jv ?_) | (with_reducible refine Xp ?_) | (with_reducible refine Xm ?_) | (with_reducible refine Xd (by assumption) (by omega) (by omega) ?_; intro _ _ _ _ _; dsimp only))
     rename_i r99 k6 hr0 hr1 hk6
     have hent:Wt (if (!decide (way = 5)) = true then (Z6 u b f (1 + r99) x).map fun r34=>(r34.1,r34.2) else some (false,u)) (fun r=>MI h b (60 - 4 * (sp.length:Int) + 1) r.2 ∧ FO r.2 gs ∧ ks r.2 = ks u):=by
      refine Zm (fun _=>Xp (Q6v mu fu1 (sub f (Q4 _ hf)) (by omega) hx.2.1 (by omega) (by omega) (by omega) fun ok m' a1 a2 a3=>⟨a1,a2 _ fu1,a3⟩)) (fun _=>Xc ⟨mu.mon (by omega),fu1,rfl⟩)
     refine hent.mon fun r hr=>?_
     obtain ⟨okb,m2⟩:=r
     obtain ⟨a1,a2,a3⟩:=hr
     dsimp only at a1 a2 a3 ⊢
     repeat (first | (with_reducible refine Jv ?_) | (with_reducible refine Xp ?_) | (with_reducible refine Xm ?_) | (with_reducible refine Xd (by assumption) (by omega) (by omega) ?_; intro _ _ _ _ _; dsimp only))
     have hand:Wt (if (!okb) = true then ((((((Ve m2 2)).bind fun v39=>(Q1v v39.2 ([((eP2 Q0 Q0) (x,x))])).map fun v41=>(v39,v41))).bind fun b40=>((Q4d b40.2)).map fun v43=>(b40,v43))).bind fun b42=>(Q2z m2 2 (2,b42.2)).bind fun u44=>(some u44) else (some m2)) (fun m3=>MI h b (60 - 4 * (sp.length:Int) + 1 + 1) m3 ∧ FO m3 gs ∧ ks m3 = ks u):=by
      refine Zm (fun _=>?_) (fun _=>Xc ⟨a1.mon (by omega),a2,a3⟩)
      obtain ⟨Xu,er⟩:=a2 2 (sub 2 (Q5 ..))
      have hm:=Ka er
      have hl:=a1.len _ hm
      dsimp only at hl
      have hr:∀ d ∈ Xu,Row h d:=by
       rcases a1.ent _ hm with ⟨_,q⟩ | ⟨q,_⟩
       ·exact q
       ·exact absurd (show (2:Int) = 1 from q) (by decide)
      have hr2:∀ d ∈ Xu ++ [((eP2 Q0 Q0) (x,x))],Row h d:=by
       intro d hd
       rcases Q9.mp hd with hd | hd
       ·exact hr d hd
       ·rw [Qj] at hd
        subst hd
        exact ⟨_,_,rfl,by omega,hx.2.1,by omega,by omega⟩
      rw [er]
      simp only [Q1]
      repeat (first | (with_reducible refine Jv ?_) | (with_reducible refine Xp ?_) | (with_reducible refine Xm ?_) | (with_reducible refine Xd (by assumption) (by omega) (by omega) ?_; intro _ _ _ _ _; dsimp only))
      refine Qan (by simp; omega) ?_
      repeat (first | (with_reducible refine Jv ?_) | (with_reducible refine Xp ?_) | (with_reducible refine Xm ?_) | (with_reducible refine Xd (by assumption) (by omega) (by omega) ?_; intro _ _ _ _ _; dsimp only))
      refine Q8n hr2 fun more pm=>?_
      have hm1:(more.length:Int) ≤ 60 - 4 * (sp.length:Int) + 1 + 1:=by rw [pm.length_eq,Qs]; simp; omega
      have hmr:∀ d ∈ more,Row h d:=fun d hd=>hr2 d (pm.mem_iff.mp hd)
      have hml:=a1.ml
      dsimp only
      repeat (first | (with_reducible refine Jv ?_) | (with_reducible refine Xp ?_) | (with_reducible refine Xm ?_) | (with_reducible refine Xd (by assumption) (by omega) (by omega) ?_; intro _ _ _ _ _; dsimp only))
      refine Q5p (by omega) (Xc ?_)
      have mm:=MI.more a1 er hmr hm1 (.inl rfl)
      exact ⟨mm.1,a2.put _ _,mm.2.trans a3⟩
     refine hand.mon fun m3 hm3=>?_
     obtain ⟨c1,c2,c3⟩:=hm3
     repeat (first | (with_reducible refine Jv ?_) | (with_reducible refine Xp ?_) | (with_reducible refine Xm ?_) | (with_reducible refine Xd (by assumption) (by omega) (by omega) ?_; intro _ _ _ _ _; dsimp only))
     have ht':1 ≤ t ∧ t ≤ 3:=by simp at ht; omega
     refine Qa7 (.inl (Q7T (by omega) (by omega))) ?_
     have hbo:0 ≤ (t - 1) * boI (decide (2 < way)) ∧ (t - 1) * boI (decide (2 < way)) ≤ 2:=by
      unfold boI
      split <;> omega
     revert hbo
     generalize (t - 1) * boI (decide (2 < way)) = tt
     intro hbo
     repeat (first | (with_reducible refine Jv ?_) | (with_reducible refine Xp ?_) | (with_reducible refine Xm ?_) | (with_reducible refine Xd (by assumption) (by omega) (by omega) ?_; intro _ _ _ _ _; dsimp only))
     refine Q2C (by omega) (by omega) ?_
     dsimp only
     repeat (first | (with_reducible refine Jv ?_) | (with_reducible refine Xp ?_) | (with_reducible refine Xm ?_) | (with_reducible refine Xd (by assumption) (by omega) (by omega) ?_; intro _ _ _ _ _; dsimp only))
     refine Q0S (fun xs s=>s.1.cs.length ≤ 63 ∧ xs.length ≤ 2 ∧ MI h b (60 - 4 * (sp.length:Int) + 4 - (xs.length:Int)) s.2 ∧ FO s.2 gs ∧ ks s.2 = ks u) ⟨hk6,by rw [Yf]; omega,c1.mon (by rw [Yf]; omega),c2,c3⟩ (fun y ys s hs=>?_) (fun s hs=>?_)
     ·obtain ⟨d1,d2,d3,d4,d5⟩:=hs
      rw [Qe] at d2 d3
      repeat (first | (with_reducible refine Jv ?_) | (with_reducible refine Xp ?_) | (with_reducible refine Xm ?_) | (with_reducible refine Xd (by assumption) (by omega) (by omega) ?_; intro _ _ _ _ _; dsimp only))
      refine Q3u d1 f0 (by omega) fun f2 hf2 k7 hk7=>?_
      dsimp only
      repeat (first | (with_reducible refine Jv ?_) | (with_reducible refine Xp ?_) | (with_reducible refine Xm ?_) | (with_reducible refine Xd (by assumption) (by omega) (by omega) ?_; intro _ _ _ _ _; dsimp only))
      refine Q6v d3 d4 (sub f2 (Q4 _ hf2)) (by omega) hx.2.1 (by omega) (by omega) (by omega) fun ok m' a1 a2 a3=>?_
      refine Xc ⟨by assumption,by omega,a1.mon (by omega),a2 _ d4,a3.trans d5⟩
     ·obtain ⟨d1,d2,d3,d4,d5⟩:=hs
      have hfo:Wt (if decide (way < 3) = true then (Q5P fs x).bind fun p56=>some p56 else some fs) (fun fs'=>2 :: fs' = gs ∧ 0 < fs'.length ∧ fs'.length ≤ fs.length + 1):=by
       refine Zm (fun c=>?_) (fun c=>Xc ⟨?_,f0,by omega⟩)
       ·refine Jv (QcE (by omega) (Xc ⟨?_,by simp,by simp⟩))
        rw [← hgs,if_pos (of_decide_eq_true c)]
       ·rw [← hgs,if_neg (of_decide_eq_false c)]
      refine Jv (hfo.mon fun fs' hfs=>Xc ?_)
      obtain ⟨g1,g2,g3⟩:=hfs
      have hlen:s.2.length ≤ m.length + 1:=by
       have:(ks s.2).length = (ks u).length:=by rw [d5]
       unfold ks at this
       rw [Q3,Q3] at this
       omega
      refine ⟨d1,?_,e1,?_,?_,?_,g2,?_,?_⟩
      ·dsimp only; omega
      ·intro y hy
       refine ⟨(hsp' y hy).1,(hsp' y hy).2.1,?_⟩
       dsimp only
       rw [d5,kk]
       intro q
       rcases Q9.mp q with q | q
       ·exact (hsp' y hy).2.2 q
       ·rw [Qj] at q
        subst q
        exact e3 hy
      ·refine d3.mon ?_
       simp only [Qu]
       omega
      ·dsimp only
       rw [g1]
       exact d4
      ·dsimp only; omega
      ·dsimp only; omega
structure GI (h b:Int) (m:Mo) (g:List (Int × List Int)):Prop where
 has:∀ x ∈ ks m,x ∈ g.map (·.1)
 ok:∀ p ∈ g,p.2.length ≤ 12 ∧ ∀ y ∈ p.2,1 ≤ y ∧ y ≤ b
theorem QaX {k:Dk} {h b:Int} {m:Mo} (hk:k.cs.length ≤ 63) (i:MI h b 60 m) (b3:3 ≤ b) (b12:b ≤ 12) {P:List (Int × List Int) × Dk → Prop} (hP:∀ g k',GI h b m g → k'.cs.length ≤ 63 → P (g,k')):Wt (Q1o k m b) P:=by
 have hml:=i.ml
 unfold Q1o Wo
 repeat (first | (with_reducible refine Jv ?_) | (with_reducible refine Xp ?_) | (with_reducible refine Xm ?_) | (with_reducible refine Xd (by assumption) (by omega) (by omega) ?_; intro _ _ _ _ _; dsimp only))
 refine Q9Z (by omega) (by omega) (by omega) (by omega) ?_
 repeat (first | (with_reducible refine Jv ?_) | (with_reducible refine Xp ?_) | (with_reducible refine Xm ?_) | (with_reducible refine Xd (by assumption) (by omega) (by omega) ?_; intro _ _ _ _ _; dsimp only))
 refine Q9P (by omega) fun xs pm=>?_
 have hlen:xs.length = m.length:=by rw [pm.length_eq,Q3]
 repeat (first | (with_reducible refine Jv ?_) | (with_reducible refine Xp ?_) | (with_reducible refine Xm ?_) | (with_reducible refine Xd (by assumption) (by omega) (by omega) ?_; intro _ _ _ _ _; dsimp only))
 refine Q0S (fun ys s=>s.1.cs.length ≤ 63 ∧ s.2.1.length ≤ 12 ∧ (∀ z ∈ s.2.1,1 ≤ z ∧ z ≤ b) ∧ sm m ys ≤ s.2.1.length ∧ (∀ y ∈ ys,y ∈ ks m) ∧ (∀ x ∈ ks m,x ∈ ys ∨ x ∈ s.2.2.map (·.1)) ∧ (∀ p ∈ s.2.2,p.2.length ≤ 12 ∧ ∀ y ∈ p.2,1 ≤ y ∧ y ≤ b) ∧ s.2.2.length + ys.length ≤ 100 ∧ 2 ∈ s.2.2.map (·.1)) ⟨hk,?_,?_,?_,?_,?_,?_,?_,?_⟩ (fun y ys s hs=>?_) (fun s hs=>?_)
 ·simp only [Yf]; omega
 ·intro z hz
  have:=Q6m hz
  omega
 ·rw [Qc3 m pm]
  have:=i.lf
  simp only [Yf]
  show sm m (ks m) ≤ _
  omega
 ·intro y hy
  exact pm.mem_iff.mp hy
 ·intro y hy
  exact .inl (pm.mem_iff.mpr hy)
 ·intro p hp
  simp at hp
  subst hp
  refine ⟨by simp,fun y hy=>?_⟩
  simp at hy
  omega
 ·simp only [Qe,Qu]; omega
 ·simp
 ·obtain ⟨k1,sp,g⟩:=s
  obtain ⟨a1,a2,a3,a4,a5,a6,a7,a8,a9⟩:=hs
  dsimp only at a1 a2 a3 a4 a5 a6 a7 a8 a9 ⊢
  rw [Qe] at a8
  rw [W1] at a4
  have hnn:0 ≤ sm m ys:=by
   clear a4 a5 a6 a8
   induction ys with
   | nil=>rw [Q9S]; omega
   | cons z zs ih =>
    rw [W1]
    have:=i.nk_nn z
    split <;> omega
  refine Jv (Zm (fun c=>?_) (fun c=>?_))
  ·have c2:y ≠ 2:=by simpa using c
   rw [if_neg c2] at a4
   obtain ⟨v,ev⟩:=Q4h (a5 y (Q5 ..))
   have hkd:=i.kind (Ka ev)
   dsimp only at hkd
   have en:=Q3T ev
   have nn:=i.nk_nn y
   rw [ev]
   simp only [Q1,Qb]
   rw [Q2g (by omega) (by omega),← en]
   simp only [Q1,Qb]
   repeat (first | (with_reducible refine Jv ?_) | (with_reducible refine Xp ?_) | (with_reducible refine Xm ?_) | (with_reducible refine Xd (by assumption) (by omega) (by omega) ?_; intro _ _ _ _ _; dsimp only))
   refine Q2C (by omega) (by omega) ?_
   repeat (first | (with_reducible refine Jv ?_) | (with_reducible refine Xp ?_) | (with_reducible refine Xm ?_) | (with_reducible refine Xd (by assumption) (by omega) (by omega) ?_; intro _ _ _ _ _; dsimp only))
   refine Q2L (by rw [Yf]; omega) (Q29 (fun z=>1 ≤ z ∧ z ≤ b) (fun zs s=>s.1.cs.length ≤ 63 ∧ (∀ z ∈ s.2,1 ≤ z ∧ z ≤ b) ∧ s.2.length ≤ 12 ∧ (zs.length:Int) + sm m ys ≤ s.2.length) ⟨a1,a3,a2,by dsimp only; rw [Yf]; omega⟩ (fun z zs s hs=>?_) fun ws s hws hq hs=>?_)
   ·obtain ⟨b1,b2,b3',b4⟩:=hs
    rw [Qe] at b4
    repeat (first | (with_reducible refine Jv ?_) | (with_reducible refine Xp ?_) | (with_reducible refine Xm ?_) | (with_reducible refine Xd (by assumption) (by omega) (by omega) ?_; intro _ _ _ _ _; dsimp only))
    rename_i r0 kr hr0 hr1 hkr
    refine Q6C hr0 hr1 (by omega) fun hh=>?_
    have e4:=List.length_eraseIdx_of_lt hh
    refine ⟨b2 _ (List.getElem_mem hh),hkr,fun z hz=>b2 z ((List.eraseIdx_sublist ..).mem hz),?_,?_⟩ <;> dsimp only <;> omega
   ·obtain ⟨b1,b2,b3',b4⟩:=hs
    rw [Yf] at hws
    simp only [Qu] at b4
    dsimp only
    repeat (first | (with_reducible refine Jv ?_) | (with_reducible refine Xp ?_) | (with_reducible refine Xm ?_) | (with_reducible refine Xd (by assumption) (by omega) (by omega) ?_; intro _ _ _ _ _; dsimp only))
    refine Q5p (by omega) (Xc (Xc ?_))
    have hl:=Q3S g y ws
    refine ⟨b1,b3',b2,by dsimp only; omega,fun z hz=>a5 z (Q4 _ hz),fun z hz=>?_,fun p hp=>?_,by dsimp only; omega,Q3V _ _ _ (.inr a9)⟩
    ·rcases a6 z hz with q | q
     ·rcases Q7.mp q with rfl | q
      ·exact .inr (Q3V _ _ _ (.inl rfl))
      ·exact .inl q
     ·exact .inr (Q3V _ _ _ (.inr q))
    ·rcases Q0V hp with rfl | hp
     ·exact ⟨by dsimp only; omega,hq⟩
     ·exact a7 p hp
  ·have c2:y = 2:=by simpa using c
   rw [if_pos c2] at a4
   refine Xc (Xc ⟨a1,a2,a3,by dsimp only; omega,fun z hz=>a5 z (Q4 _ hz),fun z hz=>?_,a7,by dsimp only; omega,a9⟩)
   rcases a6 z hz with q | q
   ·rcases Q7.mp q with q | q
    ·exact .inr (by rw [q,c2]; exact a9)
    ·exact .inl q
   ·exact .inr q
 ·obtain ⟨a1,a2,a3,a4,a5,a6,a7,a8,a9⟩:=hs
  refine Xc (hP _ _ ⟨fun x hx=>?_,a7⟩ a1)
  rcases a6 x hx with q | q
  ·exact nomatch q
  ·exact q
theorem Q33 {f:D → Option τ} (Q:τ → Prop):∀ ds:List D,(∀ d ∈ ds,∃ y,f d = some y ∧ Q y) → ∃ ys,List.mapM f ds = some ys ∧ ys.length = ds.length ∧ ∀ y ∈ ys,Q y
 | [],_=>⟨[],rfl,rfl,fun _ h=>nomatch h⟩
 | d :: ds,h=>by
  obtain ⟨y,e,q⟩:=h d (Q5 ..)
  obtain ⟨ys,e2,l,qs⟩:=Q33 Q ds fun x hx=>h x (Q4 _ hx)
  refine ⟨y :: ys,?_,by simp [l],fun z hz=>?_⟩
  ·rw [List.mapM_cons,e,e2]
   rfl
  ·rcases Q7.mp hz with rfl | hz
   ·exact q
   ·exact qs z hz
theorem Qbb {α:Type} (xs:List α) {a b:Int} (h:0 ≤ a) (h2:a ≤ b):((Xi xs (some a) (some b)).length:Int) ≤ b - a:=by
 obtain ⟨n,rfl⟩:=J5 h
 obtain ⟨m,rfl⟩:=J5 (show 0 ≤ b by omega)
 rw [Q83,Je]
 omega
theorem Qab:∀ xs:List Int,(∀ x ∈ xs,0 ≤ x ∧ x ≤ 100) → 0 ≤ xs.sum ∧ xs.sum ≤ 100 * (xs.length:Int)
 | [],_=>⟨by simp,by simp⟩
 | x :: xs,h=>by
  have a:=h x (Q5 ..)
  have b:=Qab xs fun y hy=>h y (Q4 _ hy)
  rw [List.sum_cons,Qe]
  omega
theorem Q0x {xs:List Int} {i:Nat} {v M:Int} (h:∀ c ∈ xs,0 ≤ c ∧ c ≤ M) (h0:0 ≤ v) (h1:v ≤ M):∀ c ∈ xs.set i v,0 ≤ c ∧ c ≤ M:=fun c hc=>by
 rcases List.mem_or_eq_of_mem_set hc with hc | rfl
 ·exact h c hc
 ·exact ⟨h0,h1⟩
theorem Q7q {xs:List Int} {M M':Int} (h:∀ c ∈ xs,0 ≤ c ∧ c ≤ M) (hM:M ≤ M'):∀ c ∈ xs,0 ≤ c ∧ c ≤ M':=fun c hc=>by have:=h c hc; omega
theorem QbJ {h b:Int} {m:Mo} {g:List (Int × List Int)} (i:MI h b 60 m) (gi:GI h b m g) (h2:2 ≤ h) (h8:h ≤ 8) (b3:3 ≤ b) (b12:b ≤ 12) {P:St → Prop} (hP:∀ s,WF s → Bd 100000 s → P s):Wt (Q27 h b m g) P:=by
 have hml:=i.ml
 unfold Q27 Wo
 refine Jv (QcV (by omega) (by omega) ?_)
 refine Jv (Q0S (fun ys (s:List Int)=>(∀ y ∈ ys,y ∈ ks m) ∧ ys.length ≤ 8 ∧ (s.length:Int) = 7 * h + 5 * b + 82 ∧ ∀ c ∈ s,0 ≤ c ∧ c ≤ 100000 - 100 * (ys.length:Int)) ⟨fun _ h=>h,by rw [Q3]; exact hml,by rw [List.length_replicate]; omega,fun c hc=>by rw [List.eq_of_mem_replicate hc,Q3]; omega⟩ (fun x xs cs hcs=>?_) (fun s hs=>?_))
 ·obtain ⟨hmem,h88,hcs,hbd⟩:=hcs
  rw [Qe] at h88 hbd
  have hx:=hmem x (Q5 ..)
  have hxb:=i.kb x hx
  refine Jv (Qa9 hx fun v ev hv=>?_)
  have hl:=i.len _ hv
  have hkd:=i.kind hv
  dsimp only at hl hkd
  have hrow:∃ c7:List Int,(List.mapM asI (if (decide (v.1 = 1)) then v.2 else [])) = some c7 ∧ (c7.length ≤ 60 ∧ ∀ y ∈ c7,0 ≤ y ∧ y ≤ 100) ∧ ∃ v8:List (Int × Int),(List.mapM (Q8H asI asI) (if (decide (v.1 = 2)) then v.2 else [])) = some v8 ∧ v8.length ≤ 60 ∧ ∀ p ∈ v8,1 ≤ p.2 ∧ p.2 ≤ h ∧ 0 ≤ p.1 ∧ p.1 ≤ 100:=by
   rcases i.ent _ hv with ⟨e,q⟩ | ⟨e,q⟩
   ·dsimp only at e q
    obtain ⟨ys,e2,l,qs⟩:=Q33 (f:=Q8H asI asI) (fun p=>1 ≤ p.2 ∧ p.2 ≤ h ∧ 0 ≤ p.1 ∧ p.1 ≤ 100) v.2 (fun d hd=>by
     obtain ⟨a,c,rfl,c1,c2,c3,c4⟩:=q d hd
     exact ⟨(a,c),rfl,c1,c2,c3,c4⟩)
    refine ⟨[],?_,⟨by simp,fun _ h=>nomatch h⟩,ys,?_,by omega,qs⟩
    ·rw [if_neg (by rw [e]; decide)]; rfl
    ·rw [if_pos (by rw [e]; decide)]; exact e2
   ·dsimp only at e q
    obtain ⟨ys,e2,l,qs⟩:=Q33 (f:=asI) (fun y=>0 ≤ y ∧ y ≤ 100) v.2 (fun d hd=>by
     obtain ⟨a,rfl,a0,a1⟩:=q d hd
     exact ⟨a,rfl,a0,a1⟩)
    refine ⟨ys,?_,⟨by omega,qs⟩,[],?_,by simp,fun _ h=>nomatch h⟩
    ·rw [if_pos (by rw [e]; decide)]; exact e2
    ·rw [if_neg (by rw [e]; decide)]; rfl
  obtain ⟨c7,e7,⟨l7,b7⟩,v8,e8,l8,q8⟩:=hrow
  refine Jv ⟨c7,e7,?_⟩
  refine Jv ⟨v8,e8,?_⟩
  refine Jv (Q0S (fun ys (s:List Int × List Int)=>(s.1.length:Int) = 7 * h + 5 * b + 82 ∧ s.2.length + 2 * ys.length ≤ 200 ∧ (∀ y ∈ ys,y ∈ v8) ∧ (∀ c ∈ s.1,0 ≤ c ∧ c ≤ 100000 - 100 * (xs.length:Int) - 40 - (ys.length:Int)) ∧ ∀ y ∈ s.2,0 ≤ y ∧ y ≤ 100) ⟨hcs,by dsimp only; omega,fun _ h=>h,Q7q hbd (by omega),b7⟩ (fun y ys s hs=>?_) (fun s hs=>?_))
  ·obtain ⟨a1,a2,a3,a4,a5⟩:=hs
   rw [Qe] at a2 a4
   have hy:=q8 y (a3 y (Q5 ..))
   refine Jv (Qd1 (by simp; omega) ?_)
   refine Jv (Q6n (by omega) (by omega) fun t ht=>?_)
   have ht':=a4 t ht
   refine Jv (Q0Q (by omega) (by omega) (Xc ⟨?_,?_,fun z hz=>a3 z (Q4 _ hz),Q0x (Q7q a4 (by omega)) (by omega) (by omega),fun z hz=>?_⟩))
   ·rw [Qk]; exact a1
   ·rw [Qs]; simp; omega
   ·rcases Q9.mp hz with hz | hz
    ·exact a5 z hz
    ·simp only [Q7,Qn,or_false] at hz
     omega
  ·obtain ⟨a1,a2,a3,a4,a5⟩:=hs
   simp only [Qu] at a2 a4
   have hsum:=Qab s.2 a5
   have a6:∀ c ∈ s.1,0 ≤ c ∧ c ≤ 100000 - 100 * (xs.length:Int):=Q7q a4 (by omega)
   refine Jv (Q0Q (by omega) (by omega) ?_)
   refine Jv (Q0Q (by omega) (by rw [Qk]; omega) ?_)
   refine Jv (Q0Q (by omega) (by rw [Qk,Qk]; omega) ?_)
   refine Jv (Qa9 (gi.has x hx) fun bl eb hb=>?_)
   obtain ⟨hbl,hbk⟩:=gi.ok _ hb
   dsimp only at hbl hbk
   refine Jv (Q7S (fun s:List Int=>(s.length:Int) = 7 * h + 5 * b + 82 ∧ ∀ c ∈ s,0 ≤ c ∧ c ≤ 100000 - 100 * (xs.length:Int)) ⟨by rw [Qk,Qk,Qk]; exact a1,Q0x (Q0x (Q0x a6 (by omega) (by omega)) (by omega) (by omega)) (by omega) (by omega)⟩ (fun p hp cs2 hcs2=>?_) (fun s2 hs2=>Xc ⟨fun z hz=>hmem z (Q4 _ hz),by omega,hs2.1,hs2.2⟩))
   obtain ⟨hcs2,hbd2⟩:=hcs2
   have hpe:=Q6c hp
   have hp2:=hbk _ hpe.2.2
   refine Jv (Q0Q (by omega) (by omega) ?_)
   refine Jv (Q0Q (by omega) (by rw [Qk]; omega) ?_)
   refine Jv (Q7S (fun s:List Int=>(s.length:Int) = 7 * h + 5 * b + 82 ∧ ∀ c ∈ s,0 ≤ c ∧ c ≤ 100000 - 100 * (xs.length:Int)) ⟨by rw [Qk,Qk]; exact hcs2,Q0x (Q0x hbd2 (by omega) (by omega)) (by omega) (by omega)⟩ (fun q hq cs3 hcs3=>?_) (fun s3 hs3=>Xc hs3))
   obtain ⟨hcs3,hbd3⟩:=hcs3
   have hqe:=Q6c hq
   have hc:=Qbb s.2 (a:=4 * p.1) (b:=4 * p.1 + 4) (by omega) (by omega)
   have hq5:=a5 _ (Q8b hqe.2.2)
   refine Jv (Q0Q (by omega) (by omega) (Xc ⟨?_,Q0x hbd3 (by omega) (by omega)⟩))
   rw [Qk]
   exact hcs3
 ·exact Xc (hP _ ⟨h2,h8,b3,b12,hs.2.2.1⟩ fun c hc=>by have:=hs.2.2.2 c hc; simp only [Qu] at this; omega)
theorem Q9W {k:Dk} (hk:k.cs.length ≤ 63) {P:St × Dk → Prop} (hP:∀ s k',WF s → Bd 100000 s → k'.cs.length ≤ 63 → P (s,k')):Wt (Q1d k) P:=by
 unfold Q1d
 refine Jv (Qa4 hk fun h b k1 h2 h8 b3 b12 hk1=>?_)
 refine Jv (Qa2 hk1 h2 h8 b3 fun m k2 mi hk2=>?_)
 refine Jv (Jv (QaX hk2 mi b3 b12 fun g k3 gi hk3=>?_))
 refine Xp (QbJ mi gi h2 h8 b3 b12 fun s ws bs=>?_)
 exact Xc (hP _ _ ws bs hk3)
end K04
namespace K04
open PySem PySem.Spec PyProof.Rows L2 Z
variable {ι τ σ ρ:Type}
def NB:Int:=10 ^ 40 - 1
theorem Q4R {k:Dk} {P:Int × Dk → Prop} (hk:k.cs.length ≤ 63) (hP:∀ v k',-NB ≤ v → v ≤ NB → k'.cs.length ≤ 63 → P (v,k')):Wt (Zc k) P:=by
 unfold Zc NB at *
 refine Jv (Xd hk (by omega) (by omega) fun w k1 w0 w1 hk1=>?_)
 refine Zm (fun _=>Jv (Xd hk1 (by omega) (by omega) fun a k2 a0 a1 hk2=>Xc (hP _ _ (by dsimp only; omega) (by dsimp only; omega) hk2))) fun c4=>?_
 refine Zm (fun _=>Jv (Xd hk1 (by omega) (by omega) fun a k2 a0 a1 hk2=>Xc (hP _ _ (by dsimp only; omega) (by dsimp only; omega) hk2))) fun c6=>?_
 have c6:¬ w < 6:=of_decide_eq_false c6
 refine Jv (Jv (Q6n (by dsimp only; omega) (by simp only [Qe,Qu]; omega) fun n hn=>?_))
 have hn2:0 ≤ n ∧ n ≤ 6:=by
  simp only [Q7,Qn,or_false] at hn
  omega
 refine Xp (Q2C (by omega) (by omega) ?_)
 have ln:(Q1w 0 n.toNat).length ≤ 6:=by rw [Yf]; omega
 refine Jv (Q0S (fun ys (s:Dk × Int)=>s.1.cs.length ≤ 63 ∧ 0 ≤ s.2 ∧ s.2 < 10 ^ (6 * (6 - ys.length)) ∧ ys.length ≤ 6) ⟨hk1,Int.le_refl _,?_,ln⟩ (fun x xs s hs=>?_) (fun s hs=>?_))
 ·exact Int.pow_pos (by decide)
 ·obtain ⟨b1,b2,b3,b4⟩:=hs
  rw [Qe] at b3 b4
  obtain ⟨j,hj⟩:∃ j,6 - xs.length = j + 1:=⟨5 - xs.length,by omega⟩
  have ej:6 - (xs.length + 1) = j:=by omega
  rw [ej] at b3
  have mq:Q04 s.2 (10 ^ 6:Int) = some (s.2 * 10 ^ 6):=by
   unfold Q04
   rw [if_pos]
   have:Wq (10 ^ 6:Int) = true:=by decide
   rw [this,Bool.or_true]
  rw [mq,Q1]
  refine Jv (Xp (Xd b1 (by omega) (by omega) fun a k2 a0 a1 hk2=>Xm (Xc ⟨hk2,by dsimp only; omega,?_,by omega⟩)))
  rw [hj,show 6 * (j + 1) = 6 * j + 6 by omega,Int.pow_add]
  (try dsimp only)
  generalize (10:Int) ^ (6 * j) = t at b3 ⊢
  omega
 ·obtain ⟨b1,b2,b3,_⟩:=hs
  have b3:s.2 < 10 ^ 36:=b3
  refine Jv (Jv (Xd b1 (by omega) (by omega) fun a k2 a0 a1 hk2=>?_))
  refine Xp (Q6n (by dsimp only; omega) (by simp only [Qe,Qu]; omega) fun v hv=>Xc (hP v k2 ?_ ?_ hk2))
  all_goals
   simp only [Q7,Qn,or_false] at hv
   omega
theorem Qdt {k:Dk} {P:St × Dk → Prop} (hk:k.cs.length ≤ 63) (hP:∀ st k',WF st → Bd NB st → k'.cs.length ≤ 63 → P (st,k')):Wt (K0 k) P:=by
 have nb0:(100000:Int) ≤ NB:=by decide
 unfold K0
 refine Jv (Xd hk (by omega) (by omega) fun w k1 w0 w1 hk1=>?_)
 refine Jv (Q9W hk1 fun st k2 ws bs hk2=>?_)
 have ⟨q1,q2,q3,q4,q5⟩:=ws
 refine Zm (fun _=>?_) fun _=>?_
 ·refine Jv (Q2L (by dsimp only; omega) (Q29 (fun v=>-NB ≤ v ∧ v ≤ NB) (fun _ (s:Dk)=>s.cs.length ≤ 63) hk2 (fun x xs s hs=>Xp (Q4R hs fun v k3 v0 v1 hk3=>⟨⟨v0,v1⟩,hk3⟩)) fun ys s hl hq hs=>?_))
  exact Xc (hP _ _ ⟨q1,q2,q3,q4,by dsimp only at hl ⊢; rw [hl]; exact q5⟩ (fun c hc=>hq c hc) hs)
 ·refine Jv (Jv (Jv (Xd hk2 (by omega) (by omega) fun a k3 a0 a1 hk3=>?_)))
  have mq:Q04 w a = some (w * a):=by
   unfold Q04
   rw [if_pos]
   have:Wq w = true:=by
    unfold Wq
    rw [decide_eq_true (by omega),decide_eq_true (by omega)]
    rfl
   rw [this,Bool.true_or]
  have wa:w * a ≤ 24 ∧ 0 ≤ w * a:=by
   have:w = 0 ∨ w = 1 ∨ w = 2:=by omega
   rcases this with rfl | rfl | rfl <;> omega
  (try dsimp only)
  rw [mq]
  refine Xc (Xp (Q2C (by dsimp only; omega) (by dsimp only; omega) ?_))
  refine Jv (Q0S (fun _ (s:Dk × List Int)=>s.1.cs.length ≤ 63 ∧ s.2.length = st.2.2.length ∧ ∀ c ∈ s.2,-NB ≤ c ∧ c ≤ NB) ⟨hk3,rfl,fun c hc=>by have:=bs c hc; omega⟩ (fun x xs s hs=>?_) (fun s hs=>?_))
  ·obtain ⟨b1,b2,b3⟩:=hs
   refine Jv (Q4R b1 fun v k4 v0 v1 hk4=>?_)
   refine Jv (Xd hk4 (by unfold Wo; omega) (by unfold Wo; omega) fun p k5 p0 p1 hk5=>?_)
   unfold Wo at p1
   refine Jv (Q0Q p0 p1 (Xc ⟨hk5,by dsimp only; rw [Qk]; exact b2,fun c hc=>?_⟩))
   rcases List.mem_or_eq_of_mem_set hc with q | q
   ·exact b3 c q
   ·rw [q]; exact ⟨v0,v1⟩
  ·obtain ⟨b1,b2,b3⟩:=hs
   exact Xc (hP _ _ ⟨q1,q2,q3,q4,by dsimp only; rw [b2]; exact q5⟩ b3 b1)
theorem Qat {α:Type} {x:α} {k:Int} {P:List α → Prop} (h0:0 ≤ k) (h1:k ≤ 1000) (h:P (Q8 k.toNat x)):Wt (Q3L [x] k) P:=by
 refine ⟨_,if_pos ?_,?_⟩
 ·simp
  omega
 ·have:(Q8 k.toNat [x]).flatten = Q8 k.toNat x:=by
   induction k.toNat with
   | zero=>rfl
   | succ n ih=>rw [Ji,List.flatten_cons,ih]; rfl
  rw [this]
  exact h
end K04
namespace K04
open PySem PySem.Spec PyProof.Rows L2 Z
variable {ι τ σ ρ:Type}
open TL
theorem Q9E {f:ι → Option τ} {xs:List ι} (g:ι → τ) (hf:∀ x ∈ xs,f x = some (g x)):mapM f xs = some (xs.map g):=by
 obtain ⟨a,e,h⟩:=QbF (P:=fun ys=>ys = xs.map g) g hf rfl
 rw [e,h]
theorem Q52 {xs:List ι} {o:Option τ} (h:xs.length ≤ 1000000):Wm xs o = o:=if_pos (Qr h Kj)
theorem Q8O {xs ys:List τ} (h:xs.length + ys.length ≤ 1000000):Q1v xs ys = some (xs ++ ys):=if_pos (Qr h Kj)
theorem Qbw {xs:List τ} {y:τ} (h:xs.length < 1000000):Q5P xs y = some (xs ++ [y]):=if_pos (Qd h Kj)
theorem Qcv {f:ι → τ} {xs:List ι} (h:xs.length ≤ 1000000):Q9p f xs = some (xs.map f):=if_pos (Qr h Kj)
theorem Q7D (z:Str) (lo hi:Option Int):tl (cutS z lo hi) = Xi (tl z) lo hi:=rfl
def nT (i:Int):Str:=Str.ofString (toString i)
theorem Q7b (n:Nat):tl (nT (n:Int)) = numL n:=tl_num n
theorem Q7j (n:Nat):tl (nT (Jb n)) = 45 :: numL (n + 1):=by
 have e:toString (Jb n) = "-" ++ toString (((n + 1:Nat):Int)):=rfl
 have q:tl (nT (((n + 1:Nat):Int))) = numL (n + 1):=tl_num (n + 1)
 unfold nT at q ⊢
 rw [tl_ofString] at q ⊢
 rw [e,String.toList_append,Jg,q]
 rfl
theorem Q8W:∀ (n:Nat) (r:List Nat),numL n = 48 :: r → n = 0:=by
 intro n
 induction n using Nat.strongRecOn with
 | _ n ih =>
  intro r h
  by_cases c:n < 10
  ·rw [numL_lt c] at h
   injection h with h
   omega
  ·rw [numL_step (by omega)] at h
   cases q:numL (n / 10) with
   | nil=>exact absurd q (numL_ne _)
   | cons a t =>
    rw [q,List.cons_append] at h
    injection h with h1 h2
    subst h1
    have:=ih (n / 10) (by omega) t q
    omega
theorem QcN {c:Nat} (h:48 ≤ c ∧ c ≤ 57):inD (.str ⟨#[c]⟩) (.str ("0123456789":Str)) = some true:=by
 have:c = 48 ∨ c = 49 ∨ c = 50 ∨ c = 51 ∨ c = 52 ∨ c = 53 ∨ c = 54 ∨ c = 55 ∨ c = 56 ∨ c = 57:=by omega
 rcases this with rfl | rfl | rfl | rfl | rfl | rfl | rfl | rfl | rfl | rfl <;> decide +kernel
theorem QaN {x y:Str}:x = y ↔ tl x = tl y:=⟨fun h=>h ▸ rfl,ext_tl⟩
theorem Q88 {s word:Str} {n:Nat} (e:tl s = numL n) (h:n < 10 ^ 40) (hw:n = 0 → word = ("0":Str)) {γ:Type} (f:Option γ) :
  (((((Q96 s)).bind fun v6=>if (!(decide (1 ≤ v6) && decide (v6 ≤ 40))) then some true else (((Wm (chN s) (mapM (fun x7=>(inD (Q2 x7) (Q2 ("0123456789":Str)))) (chN s)))).map fun l9=>(!(l9.all id))))).bind fun b11=>if b11 then none else (some ())).bind (fun s12:Unit=>(((((sIx s 0)).bind fun v13=>if (decide (v13 = ("0":Str))) then (some (!decide (word = ("0":Str)))) else some false)).bind fun b15=>if b15 then none else (some ())).bind fun s16:Unit=>f) = f:=by
 have l1:s.length = (numL n).length:=by rw [len_tl,e]
 have l2:(numL n).length ≤ 40:=numL_len (by decide) h
 have l3:1 ≤ (numL n).length:=by
  cases q:numL n with
  | nil=>exact absurd q (numL_ne n)
  | cons a t=>simp
 have sb:(40:Nat) ≤ sizeLine:=by decide
 have ls:Q96 s = some (s.length:Int):=if_pos (by omega)
 rw [ls,Q1,decide_eq_true (show (1:Int) ≤ (s.length:Int) by omega),decide_eq_true (show (s.length:Int) ≤ 40 by omega),if_neg (by simp)]
 have mm:mapM (fun x7=>(inD (Q2 x7) (Q2 ("0123456789":Str)))) (chN s) = some ((chN s).map fun _=>true):=Q9E _ fun d hd=>by
  obtain ⟨c,hc,rfl⟩:=Qp.mp hd
  have hc:c ∈ tl s:=hc
  rw [e] at hc
  exact QcN (numL_digits n c hc)
 have lc:(chN s).length ≤ 1000000:=by
  unfold chN
  rw [Q3]
  have:s.cps.toList.length = s.length:=Array.length_toList
  omega
 rw [mm,Q52 lc,Qb,Q1]
 have al:(((chN s).map fun _=>true).all id) = true:=by
  rw [List.all_map]
  simp
 rw [al,if_neg (by simp),Q1]
 cases q:numL n with
 | nil=>exact absurd q (numL_ne n)
 | cons a t =>
  have es:tl s = a :: t:=by rw [e,q]
  have si:sIx s 0 = some ⟨#[a]⟩:=by
   unfold sIx
   rw [if_pos (by omega)]
   have:s.cps.toList = a :: t:=es
   rw [this]
   obtain ⟨c,ec⟩:=Q6R (a :: t) 0 (by omega) (by simp only [Qe]; omega)
   rw [ec]
   rfl
  rw [si,Q1]
  by_cases c:(⟨#[a]⟩:Str) = ("0":Str)
  ·have a0:a = 48:=by
    have:=QaN.mp c
    have h2:[a] = [48]:=this
    injection h2
   subst a0
   have n0:=Q8W n t q
   rw [decide_eq_true c,if_pos rfl,decide_eq_true (hw n0)]
   rfl
  ·rw [decide_eq_false c,if_neg (by simp)]
   rfl
theorem Q6O {i:Int} (h0:-NB ≤ i) (h1:i ≤ NB):V3 (nT i) = some i:=by
 have sb:(100:Nat) ≤ sizeLine:=by decide
 unfold NB at h0 h1
 cases i with
 | ofNat n =>
  have hn:n < 10 ^ 40:=by
   have h1:(n:Int) ≤ 10 ^ 40 - 1:=h1
   omega
  have e:=Q7b n
  have l2:(numL n).length ≤ 40:=numL_len (by decide) hn
  have ll:(nT (n:Int)).length = (numL n).length:=by rw [len_tl,e]
  show V3 (nT (n:Int)) = _
  unfold V3
  have c1:Q5Z (nT (n:Int)) none (some 1) = some (cutS (nT (n:Int)) none (some 1)):=if_pos (by omega)
  have ne:¬ cutS (nT (n:Int)) none (some 1) = ("-":Str):=fun q=>by
   have q:=QaN.mp q
   rw [Q7D,e,Q1O (by decide)] at q
   have q:(numL n).take 1 = [45]:=q
   cases r:numL n with
   | nil=>exact absurd r (numL_ne n)
   | cons a t =>
    rw [r] at q
    have q:[a] = [45]:=q
    injection q with q
    have:=numL_digits n a (by rw [r]; exact Q5 ..)
    omega
  rw [c1,Q1,decide_eq_false ne,if_neg (by simp),Q1]
  rw [Q88 e hn (fun z=>by rw [z]; rfl)]
  have iq:Q3e (nT (n:Int)) = some (n:Int):=by
   unfold Q3e
   rw [if_pos (by omega)]
   exact int_num (by omega)
  rw [iq]
  rfl
 | negSucc n =>
  have hn:n + 1 < 10 ^ 40:=by omega
  have e:=Q7j n
  have l2:(numL (n + 1)).length ≤ 40:=numL_len (by decide) hn
  have ll:(nT (Jb n)).length = (numL (n + 1)).length + 1:=by rw [len_tl,e,Qe]
  unfold V3
  have c1:Q5Z (nT (Jb n)) none (some 1) = some (cutS (nT (Jb n)) none (some 1)):=if_pos (by omega)
  have c2:Q5Z (nT (Jb n)) (some 1) none = some (cutS (nT (Jb n)) (some 1) none):=if_pos (by omega)
  have eq:cutS (nT (Jb n)) none (some 1) = ("-":Str):=ext_tl (by
   rw [Q7D,e,Q1O (by decide)]
   rfl)
  have e2:tl (cutS (nT (Jb n)) (some 1) none) = numL (n + 1):=by
   rw [Q7D,e,Q2J (by decide)]
   rfl
  rw [c1,Q1,decide_eq_true eq,if_pos rfl,c2,Q1,Q1]
  rw [Q88 e2 hn (fun z=>by omega)]
  have iq:Q3e (nT (Jb n)) = some (Jb n):=by
   unfold Q3e
   rw [if_pos (by omega)]
   have:=PySem.intText_neg (x:=nT (Jb n)) (cs:=numL (n + 1)) e (numL_digits _) (numL_ne _) (by omega)
   rw [numL_val] at this
   exact this
  rw [iq]
  rfl
end K04
namespace K04
open PySem PySem.Spec PyProof.Rows L2 Z
variable {ι τ σ ρ:Type}
open TL
def Kd (xs:List Int):Str:=Txt.join (" ":Str) (xs.map nT)
def NBd (xs:List Int):Prop:=∀ c ∈ xs,-NB ≤ c ∧ c ≤ NB
theorem QaJ {i:Int} (h0:-NB ≤ i) (h1:i ≤ NB):(nT i).length ≤ 41:=by
 unfold NB at h0 h1
 rw [len_tl]
 cases i with
 | ofNat n =>
  have h1:(n:Int) ≤ 10 ^ 40 - 1:=h1
  have:=numL_len (n:=n) (k:=40) (by decide) (by omega)
  show (tl (nT (n:Int))).length ≤ 41
  rw [Q7b]
  omega
 | negSucc n =>
  have:=numL_len (n:=n + 1) (k:=40) (by decide) (by omega)
  rw [Q7j,Qe]
  omega
theorem Q8t (i:Int) {s:Nat} (h:s < 48 ∨ 57 < s) (h2:s ≠ 45):s ∉ tl (nT i):=by
 cases i with
 | ofNat n =>
  show s ∉ tl (nT (n:Int))
  rw [Q7b]
  exact numL_free h
 | negSucc n =>
  rw [Q7j]
  intro q
  rcases Q7.mp q with q | q
  ·exact h2 q
  ·exact numL_free h q
theorem Q5E {k:Nat}:∀ ys:List Str,(∀ y ∈ ys,y.length ≤ k) → (ys.map (·.length)).sum ≤ k * ys.length
 | [],_=>by simp
 | y :: r,h=>by
  have:=Q5E r fun z hz=>h z (Q4 _ hz)
  have:=h y (Q5 ..)
  rw [Qm,List.sum_cons,Qe,Nat.mul_add]
  omega
theorem Q32 {k:Nat} (S:List Nat) (hS:S.length ≤ 1):∀ ps:List (List Nat),(∀ p ∈ ps,p.length ≤ k) → (joinL S ps).length ≤ (k + 1) * ps.length
 | [],_=>by simp [joinL]
 | [p],h=>by
  have:=h p (Q5 ..)
  simp only [joinL,Qe,Qu]
  omega
 | p :: q :: r,h=>by
  have:=Q32 S hS (q :: r) fun z hz=>h z (Q4 _ hz)
  have:=h p (Q5 ..)
  rw [joinL,Qs,Qs,Qe,Nat.mul_add]
  omega
theorem Q3O {s:Nat} (S:List Nat) (hS:s ∉ S):∀ ps:List (List Nat),(∀ p ∈ ps,s ∉ p) → s ∉ joinL S ps
 | [],_=>by simp [joinL]
 | [p],h=>by
  simp only [joinL]
  exact h p (Q5 ..)
 | p :: q :: r,h=>by
  have i:=Q3O S hS (q :: r) fun z hz=>h z (Q4 _ hz)
  have j:=h p (Q5 ..)
  rw [joinL,Q9,Q9]
  rintro (z | z | z)
  ·exact j z
  ·exact hS z
  ·exact i z
theorem Q3G {xs:List Int} (h:NBd xs):(Kd xs).length ≤ 42 * xs.length:=by
 unfold Kd
 rw [len_tl,join_eq,tl_join]
 have:=Q32 (k:=41) (tl (" ":Str)) (by decide) ((xs.map nT).map tl) (fun p hp=>by
  obtain ⟨y,hy,rfl⟩:=Qp.mp hp
  obtain ⟨i,hi,rfl⟩:=Qp.mp hy
  rw [← len_tl]
  exact QaJ (h i hi).1 (h i hi).2)
 rw [Q3,Q3] at this
 exact this
theorem Q8S (xs:List Int):10 ∉ tl (Kd xs):=by
 unfold Kd
 rw [join_eq,tl_join]
 refine Q3O _ (by decide) _ fun p hp=>?_
 obtain ⟨y,hy,rfl⟩:=Qp.mp hp
 obtain ⟨i,hi,rfl⟩:=Qp.mp hy
 exact Q8t i (by omega) (by decide)
theorem QbZ {i:Int} (h0:-NB ≤ i) (h1:i ≤ NB):Q3s (.int i) = some (.str (nT i)):=by
 unfold NB at h0 h1
 refine if_pos ?_
 by_cases c:i = 0
 ·subst c; decide
 ·exact (Nat.log2_lt (by omega)).mpr (Qd (show i.natAbs < 10 ^ 40 by omega) (Qr (show 10 ^ 40 ≤ 2 ^ 200 by decide) (Nat.pow_le_pow_right (by decide) (by decide))))
theorem Q9r {d:D} {xs:List Int} (e:Yw d = some (xs.map Q0)) (h:NBd xs) (l:xs.length ≤ 300) :
  ((((((Yw d)).bind fun v1=>(Wm v1 (mapM (fun x2=>(Q3s x2)) v1)).map fun v6=>(v1,v6))).bind fun l5=>(((Q0H (Q2 (" ":Str)) ((eLi eD) l5.2)).bind asS)).map fun v8=>(l5,v8))) = some ((xs.map Q0,xs.map fun c=>.str (nT c)),Kd xs):=by
 have m:mapM (fun x2=>(Q3s x2)) (xs.map Q0) = some (xs.map fun c=>Q2 (nT c)):=by
  rw [Q9E (fun d=>match d with | .int i=>.str (nT i) | d=>d) fun d hd=>?_]
  ·rw [Qz]
   rfl
  ·obtain ⟨i,hi,rfl⟩:=Qp.mp hd
   exact QbZ (h i hi).1 (h i hi).2
 have j:Q0H (Q2 (" ":Str)) ((eLi eD) (xs.map fun c=>Q2 (nT c))) = some (.str (Kd xs)):=by
  have:(eLi eD) (xs.map fun c=>Q2 (nT c)) = eLi Q2 (xs.map nT):=by
   show Jd _ = Jd _
   rw [Qz,Qz]
   rfl
  rw [this]
  refine Q5z _ _ _ (if_pos ?_)
  have:=Q5E (k:=41) (xs.map nT) fun y hy=>by
   obtain ⟨i,hi,rfl⟩:=Qp.mp hy
   exact QaJ (h i hi).1 (h i hi).2
  rw [Q3] at this ⊢
  have:((" ":Str)).length = 1:=by decide
  rw [this]
  omega
 rw [e,Q1,m,Q52 (by rw [Q3]; omega),Qb,Q1]
 dsimp only
 rw [j]
 rfl
theorem Q9n {d:D} {xs:List Int} (e:Yw d = some (xs.map Q0)) (h:NBd xs) (l:xs.length ≤ 300):W6 d = some (Kd xs):=by
 unfold W6
 rw [Q9r e h l]
 rfl
def Xu (st:St):List (List Int):=[[st.1,st.2.1],Xi st.2.2 none (some (7 * st.1)),Xi st.2.2 (some (7 * st.1)) (some ((7 * st.1) + st.2.1)),Xi st.2.2 (some ((7 * st.1) + st.2.1)) (some ((7 * st.1) + (5 * st.2.1))),Xi st.2.2 (some ((7 * st.1) + (5 * st.2.1))) none]
def stT (st:St):Str:=Txt.join ("\n":Str) ((Xu st).map Kd)
theorem NBd.cut {xs:List Int} (h:NBd xs) (a b:Option Int):NBd (Xi xs a b):=fun c hc=>h c (List.mem_of_mem_drop (List.mem_of_mem_take hc))
theorem Q70 {α:Type} {xs:List α} (a b:Option Int):(Xi xs a b).length ≤ xs.length:=by
 unfold Xi
 rw [Je,List.length_drop]
 omega
theorem Q2r {st:St} (w:WF st) (h:NBd st.2.2):∀ r ∈ Xu st,NBd r ∧ r.length ≤ 300:=by
 have ⟨q1,q2,q3,q4,q5⟩:=w
 intro r hr
 unfold Xu at hr
 simp only [Q7,Qn,or_false] at hr
 rcases hr with rfl | rfl | rfl | rfl | rfl
 ·refine ⟨fun c hc=>?_,by simp⟩
  simp only [Q7,Qn,or_false] at hc
  unfold NB
  omega
 all_goals exact ⟨h.cut _ _,Qr (Q70 _ _) (by omega)⟩
theorem Q1V {f:ι → Option τ} {x:ι} {y:τ} {xs:List ι} {ys:List τ} (h:f x = some y) (k:mapM f xs = some ys):mapM f (x :: xs) = some (y :: ys):=by
 show (f x).bind (fun y=>(mapM f xs).map fun ys=>y :: ys) = _
 rw [h,k]
 rfl
theorem Q84 {st:St} (w:WF st) (h:NBd st.2.2):Q4l ("\n":Str) ((Xu st).map Kd) = some (stT st):=by
 refine if_pos ?_
 have:=Q5E (k:=12600) ((Xu st).map Kd) fun y hy=>by
  obtain ⟨r,hr,rfl⟩:=Qp.mp hy
  have ⟨a,b⟩:=Q2r w h r hr
  exact Qr (Q3G a) (by omega)
 have l:((Xu st).map Kd).length = 5:=rfl
 rw [l] at this ⊢
 have:(("\n":Str)).length = 1:=by decide
 omega
def QcQ (x4:D):Option Str:=(((((((Yw x4)).bind fun v5=>(Wm v5 (mapM (fun x6=>(Q3s x6)) v5)).map fun v10=>(v5,v10))).bind fun l9=>(((Q0H (Q2 (" ":Str)) ((eLi eD) l9.2)).bind asS)).map fun v12=>(l9,v12))).map fun b11=>b11.2)
theorem Q2o {d:D} {xs:List Int} (e:Yw d = some (xs.map Q0)) (h:NBd xs ∧ xs.length ≤ 300):QcQ d = some (Kd xs):=by
 unfold QcQ
 rw [Q9r e h.1 h.2]
 rfl
theorem Q9Q {st:St} (w:WF st) (h:NBd st.2.2):Q2I st = some (stT st):=by
 have R:=Q2r w h
 unfold Q2I Q2u
 dsimp only
 rw [Q8O (by simp),Q1]
 have m:mapM QcQ [((eLi Q0) ([st.1,st.2.1])),((eTu Q0) (Xi st.2.2 none (some (7 * st.1)))),((eTu Q0) (Xi st.2.2 (some (7 * st.1)) (some ((7 * st.1) + st.2.1)))),((eTu Q0) (Xi st.2.2 (some ((7 * st.1) + st.2.1)) (some ((7 * st.1) + (5 * st.2.1))))),((eTu Q0) (Xi st.2.2 (some ((7 * st.1) + (5 * st.2.1))) none))] = some ((Xu st).map Kd) :=
  Q1V (Q2o rfl (R _ (by simp [Xu]))) (Q1V (Q2o rfl (R _ (by simp [Xu]))) (Q1V (Q2o rfl (R _ (by simp [Xu]))) (Q1V (Q2o rfl (R _ (by simp [Xu]))) (Q1V (Q2o rfl (R _ (by simp [Xu]))) rfl))))
 rw [Q52 (by simp)]
 have j:=Q84 w h
 refine (congrArg (fun z=>(Option.bind (Option.bind z fun l13=>((Q4l ("\n":Str) l13)).map fun v15=>(l13,v15)) fun b14=>(some b14.2))) m).trans ?_
 rw [Q1,j]
 rfl
end K04
namespace K04
open PySem PySem.Spec PyProof.Rows L2 Z
variable {ι τ σ ρ:Type}
open TL
theorem Q6Y {h b:Int} (b0:3 ≤ b) (b1:b ≤ 12):Z8 h b = some [(0,7 * h),(7 * h,7 * h + b),(7 * h + b,7 * h + b + 4 * b),(7 * h + b + 4 * b,7 * h + 5 * b + 82)]:=by
 have mq:Q04 (1 + 4) b = some (5 * b):=by
  unfold Q04
  rw [if_pos]
  ·rfl
  ·have:Wq (1 + 4:Int) = true:=by decide
   rw [this,Bool.true_or]
 unfold Z8 Q14 K2 Zw Vp
 rw [mq]
 rfl
theorem QdW {xs:List Int} {b:Int} (h:0 ≤ b):Xi xs (some 0) (some b) = Xi xs none (some b):=by
 rw [Q1m (by decide) (by omega) h,Q1O h]
 simp
theorem Q8r {st:St} (w:WF st) (h:NBd st.2.2):Wl st = some (stT st):=by
 have R:=Q2r w h
 have ⟨q1,q2,q3,q4,q5⟩:=w
 unfold Wl
 have r1:W6 ((eLi Q0) ([st.1,st.2.1])) = some (Kd [st.1,st.2.1]):=Q9n rfl (R _ (by simp [Xu])).1 (by simp)
 have rt:∀ xs,xs ∈ Xu st → W6 ((eTu Q0) xs) = some (Kd xs):=fun xs hx=>Q9n rfl (R _ hx).1 (R _ hx).2
 have e1:Xi st.2.2 (some 0) (some (7 * st.1)) = Xi st.2.2 none (some (7 * st.1)):=QdW (by omega)
 have e4:Xi st.2.2 (some (7 * st.1 + st.2.1 + 4 * st.2.1)) (some (7 * st.1 + 5 * st.2.1 + 82)) = Xi st.2.2 (some (7 * st.1 + 5 * st.2.1)) none:=by
  rw [show 7 * st.1 + st.2.1 + 4 * st.2.1 = 7 * st.1 + 5 * st.2.1 by omega,Q1m (by omega) (by omega) (by omega),Q2J (by omega)]
  exact J6 (by rw [List.length_drop]; omega)
 have e3:Xi st.2.2 (some (7 * st.1 + st.2.1)) (some (7 * st.1 + st.2.1 + 4 * st.2.1)) = Xi st.2.2 (some (7 * st.1 + st.2.1)) (some (7 * st.1 + 5 * st.2.1)):=by
  rw [show 7 * st.1 + st.2.1 + 4 * st.2.1 = 7 * st.1 + 5 * st.2.1 by omega]
 rw [r1,Q1,Q6Y q3 q4,Q1]
 have f1:=rt _ (show Xi st.2.2 none (some (7 * st.1)) ∈ Xu st by simp [Xu])
 have f2:=rt _ (show Xi st.2.2 (some (7 * st.1)) (some (7 * st.1 + st.2.1)) ∈ Xu st by simp [Xu])
 have f3:=rt _ (show Xi st.2.2 (some (7 * st.1 + st.2.1)) (some (7 * st.1 + 5 * st.2.1)) ∈ Xu st by simp [Xu])
 have f4:=rt _ (show Xi st.2.2 (some (7 * st.1 + 5 * st.2.1)) none ∈ Xu st by simp [Xu])
 simp only [Q1a,e1,e3,e4,f1,f2,f3,f4,Q1,Qb]
 rw [Qbw (by simp),Qb,Q1,Q1]
 rw [Qbw (by simp),Qb,Q1,Q1]
 rw [Qbw (by simp),Qb,Q1,Q1]
 rw [Qbw (by simp),Qb,Q1,Q1]
 refine (congrArg (fun z=>Option.bind z fun v9=>(some v9)) (Q84 w h)).trans rfl
theorem QaV {st:St} (w:WF st) (h:NBd st.2.2):Q3N (stT st) ("\n":Str) = some ((Xu st).map Kd):=by
 have e:Txt.split (stT st) ("\n":Str) = (Xu st).map Kd:=split_join (y:=("\n":Str)) (s:=10) (S:=[]) rfl (by decide +kernel) (by simp [Xu]) fun p hp=>by
  obtain ⟨r,hr,rfl⟩:=Qp.mp hp
  exact Q8S r
 have l:(stT st).length ≤ 100000:=by
  unfold stT
  rw [len_tl,join_eq,tl_join]
  have:=Q32 (k:=12600) (tl ("\n":Str)) (by decide) (((Xu st).map Kd).map tl) (fun p hp=>by
   obtain ⟨y,hy,rfl⟩:=Qp.mp hp
   obtain ⟨r,hr,rfl⟩:=Qp.mp hy
   rw [← len_tl]
   have ⟨a,b⟩:=Q2r w h r hr
   exact Qr (Q3G a) (by omega))
  have l:(((Xu st).map Kd).map tl).length = 5:=rfl
  rw [l] at this
  omega
 unfold Q3N
 rw [if_pos ⟨by decide,Qr (Nat.add_le_add_right l 2) (by decide)⟩,e]
theorem Qb3 {xs:List Int} (h:NBd xs) (l:xs.length ≤ 300) (ne:xs ≠ []):Q3N (Kd xs) (" ":Str) = some (xs.map nT):=by
 have e:Txt.split (Kd xs) (" ":Str) = xs.map nT:=split_join (y:=(" ":Str)) (s:=32) (S:=[]) rfl (by decide +kernel) (fun z=>ne (List.map_eq_nil_iff.mp z)) fun p hp=>by
  obtain ⟨i,hi,rfl⟩:=Qp.mp hp
  exact Q8t i (by omega) (by decide)
 have:=Q3G h
 have sb:(100000:Nat) ≤ sizeLine:=by decide
 unfold Q3N
 rw [if_pos ⟨by decide,by omega⟩,e]
theorem Qae {xs:List Int} (h:NBd xs):mapM (fun x5=>(V3 x5)) (xs.map nT) = some xs:=by
 induction xs with
 | nil=>rfl
 | cons x r ih =>
  exact Q1V (Q6O (h x (Q5 ..)).1 (h x (Q5 ..)).2) (ih fun c hc=>h c (Q4 _ hc))
def Q7X (x3:Str):Option (List Int):=(((((Q3N x3 (" ":Str))).bind fun v4=>(Wm v4 (mapM (fun x5=>(V3 x5)) v4)).map fun v9=>(v4,v9))).map fun l8=>l8.2)
theorem Qad {xs:List Int} (h:NBd xs) (l:xs.length ≤ 300) (ne:xs ≠ []):Q7X (Kd xs) = some xs:=by
 unfold Q7X
 rw [Qb3 h l ne,Q1,Qae h,Q52 (by rw [Q3]; omega)]
 rfl
theorem Q58:∀ {rs:List (List Int)},(∀ r ∈ rs,NBd r ∧ r.length ≤ 300 ∧ r ≠ []) → mapM Q7X (rs.map Kd) = some rs
 | [],_=>rfl
 | r :: rs,h=>by
  have ⟨a,b,c⟩:=h r (Q5 ..)
  exact Q1V (Qad a b c) (Q58 fun z hz=>h z (Q4 _ hz))
end K04
namespace K04
open PySem PySem.Spec PyProof.Rows L2 Z
variable {ι τ σ ρ:Type}
structure SU (L m k:Nat) (d:D):Prop where
 s:d.showable = true
 n:d.hasDict = false
 l:d.leavesShort L = true
 dp:d.depth ≤ k
 b:d.bulk ≤ m
theorem SU.mon {L n k n' k':Nat} {d:D} (h:SU L n k d) (a:n ≤ n') (b:k ≤ k'):SU L n' k' d:=⟨h.s,h.n,h.l,Qr h.dp b,Qr h.b a⟩
theorem Q78 {i:Int} (h:i.natAbs < 10 ^ 60):SU 61 0 0 (.int i):=by
 have hl:i ≠ 0 → i.natAbs.log2 < 200:=fun c=>(Nat.log2_lt (by omega)).mpr (Nat.lt_trans h (by decide))
 refine ⟨?_,rfl,?_,J1 _,J1 _⟩
 ·simp only [PyData.showable]
  by_cases c:i = 0
  ·subst c; decide
  ·have:=hl c; simp; omega
 ·simp only [PyData.leavesShort,decide_eq_true_eq]
  have e:=int_text_length_le10 (k:=60) (by decide) h
  show (Str.ofString (toString i)).length ≤ 61
  rw [PySem.ofString_length]
  omega
theorem Qal {L n k:Nat}:∀ (ds:List D),(∀ d ∈ ds,SU L n k d) → PyData.showableAll ds = true ∧ PyData.hasDictAll ds = false ∧ PyData.leavesShortAll L ds = true ∧ Qv ds ≤ k ∧ PyData.bulkAll ds ≤ (n + 1) * ds.length
 | [],_=>⟨rfl,rfl,rfl,Ja _,Ja _⟩
 | d :: ds,h=>by
  obtain ⟨a1,a2,a3,a4,a5⟩:=Qal ds fun x hx=>h x (Q4 _ hx)
  have hd:=h d (Q5 ..)
  refine ⟨?_,?_,?_,?_,?_⟩
  ·simp only [PyData.showableAll,hd.s,a1,Bool.and_true]
  ·simp only [PyData.hasDictAll,hd.n,a2,Bool.or_false]
  ·simp only [PyData.leavesShortAll,hd.l,a3,Bool.and_true]
  ·have:=hd.dp
   simp only [Qv]
   omega
  ·have:=hd.b
   simp only [PyData.bulkAll,Qe]
   rw [Nat.mul_add,Nat.mul_one]
   omega
theorem Q6G {L m n k:Nat} {ds:List D} (h:∀ d ∈ ds,SU L n k d) (hn:ds.length ≤ m):SU L ((n + 1) * m) (k + 1) (.tuple ds):=by
 obtain ⟨a1,a2,a3,a4,a5⟩:=Qal ds h
 refine ⟨by simpa only [PyData.showable] using a1,by simpa only [PyData.hasDict] using a2,by simpa only [PyData.leavesShort] using a3,?_,?_⟩
 ·simp only [PyData.depth]; omega
 ·simp only [PyData.bulk]
  exact Qr a5 (Nat.mul_le_mul_left _ hn)
theorem Qau {L n:Nat} {d:D} {P:Str → Prop} (h:SU L n 64 d) (h8:8 ≤ L) (hw:(L + 2) * n + L ≤ 16777216) (p:P d.shown):Wt (Q2E d) P:=by
 have e1:=PyData.shown_le_bulk L h8 d h.l
 have e2:(L + 2) * d.bulk ≤ (L + 2) * n:=Nat.mul_le_mul_left _ h.b
 have e:d.shown.length ≤ sizeLine:=by rw [sizeLine_eq]; omega
 refine ⟨d.shown,?_,p⟩
 unfold Q2E Q3f
 rw [h.s,h.n,decide_eq_true e,decide_eq_true h.dp]
 rfl
theorem Qa5 {st:St} (w:WF st):st.2.2.length ≤ 198:=by
 have ⟨q1,q2,q3,q4,q5⟩:=w
 omega
def Bg (st:St):Prop:=∀ c ∈ st.2.2,c.natAbs < 10 ^ 60
theorem Qam {st:St} (w:WF st) (g:Bg st) {P:Str → Prop} (p:P (eP3 Q0 Q0 (eTu Q0) st).shown):Wt (Q2E (eP3 Q0 Q0 (eTu Q0) st)) P:=by
 have ⟨q1,q2,q3,q4,q5⟩:=w
 have cb:=Qa5 w
 refine Qau (L:=61) (n:=199 * 3) ((Q6G (m:=3) (n:=198) (k:=1) (fun d hd=>?_) (by simp)).mon (by omega) (by omega)) (by omega) (by omega) p
 simp only [Q7,Qn,or_false] at hd
 rcases hd with rfl | rfl | rfl
 ·exact (Q78 (by omega)).mon (by omega) (by omega)
 ·exact (Q78 (by omega)).mon (by omega) (by omega)
 ·refine (Q6G (m:=198) (n:=0) (k:=0) (fun d hd=>?_) (by rw [Q3]; exact cb)).mon (by omega) (by omega)
  obtain ⟨i,hi,rfl⟩:=Qp.mp hd
  exact Q78 (g i hi)
open TL
theorem Q7F {st:St} (w:WF st):Q0q st = some true:=by
 have ⟨q1,q2,q3,q4,q5⟩:=w
 have mq:Q04 (1 + 4) st.2.1 = some (5 * st.2.1):=by
  unfold Q04
  rw [if_pos]
  ·rfl
  ·have:Wq (1 + 4:Int) = true:=by decide
   rw [this,Bool.true_or]
 have sh:W7 st.1 st.2.1 = some true:=by
  unfold W7 Vk
  rw [decide_eq_true q1,decide_eq_true q2,decide_eq_true q3,decide_eq_true q4]
  rfl
 have mc:Vp st.1 st.2.1 = some (7 * st.1 + 5 * st.2.1 + 82):=by
  unfold Vp
  rw [mq]
  rfl
 have le:decide (Wo st.2.2 = 7 * st.1 + 5 * st.2.1 + 82) = true:=decide_eq_true q5
 have mm:mapM (fun x10=>(Vk x10)) st.2.2 = some (st.2.2.map fun _=>true):=Q9E _ fun _ _=>rfl
 have al:((st.2.2.map fun _=>true).all id) = true:=by
  rw [List.all_map]
  simp
 unfold Q0q
 rw [sh,mc,mm,Q52 (by omega)]
 simp only [Bool.not_true,Qw,if_false,decide_true,Q1,Qb,le,al]
theorem Q93 {st:St} (w:WF st):W7 st.1 st.2.1 = some true:=by
 have ⟨q1,q2,q3,q4,q5⟩:=w
 unfold W7 Vk
 rw [decide_eq_true q1,decide_eq_true q2,decide_eq_true q3,decide_eq_true q4]
 rfl
theorem QaD {st:St} (w:WF st):(Xi st.2.2 none (some (7 * st.1))).length = 7 * st.1 ∧ ((Xi st.2.2 (some (7 * st.1)) (some ((7 * st.1) + st.2.1))).length:Int) = st.2.1 ∧ ((Xi st.2.2 (some ((7 * st.1) + st.2.1)) (some ((7 * st.1) + (5 * st.2.1)))).length:Int) = 4 * st.2.1 ∧ (Xi st.2.2 (some ((7 * st.1) + (5 * st.2.1))) none).length = 82:=by
 have ⟨q1,q2,q3,q4,q5⟩:=w
 rw [Q1O (by omega),Q1m (by omega) (by omega) (by omega),Q1m (by omega) (by omega) (by omega),Q2J (by omega)]
 simp only [Je,List.length_drop]
 omega
theorem Qah {st:St} (w:WF st):Xi st.2.2 none (some (7 * st.1)) ++ Xi st.2.2 (some (7 * st.1)) (some ((7 * st.1) + st.2.1)) ++ Xi st.2.2 (some ((7 * st.1) + st.2.1)) (some ((7 * st.1) + (5 * st.2.1))) ++ Xi st.2.2 (some ((7 * st.1) + (5 * st.2.1))) none = st.2.2:=by
 have ⟨q1,q2,q3,q4,q5⟩:=w
 rw [Q1O (by omega),Q1m (by omega) (by omega) (by omega),Q1m (by omega) (by omega) (by omega),Q2J (by omega)]
 have e:∀ (xs:List Int) (a b:Nat),a ≤ b → xs.take a ++ (xs.drop a).take (b - a) = xs.take b:=fun xs a b h=>by
  have:=List.take_append_drop a (xs.take b)
  rw [List.take_take,Nat.min_eq_left h,List.drop_take] at this
  exact this
 have e1:=e st.2.2 (7 * st.1).toNat (7 * st.1 + st.2.1).toNat (by omega)
 have e2:=e st.2.2 (7 * st.1 + st.2.1).toNat (7 * st.1 + 5 * st.2.1).toNat (by omega)
 rw [show (7 * st.1 + st.2.1 - 7 * st.1).toNat = (7 * st.1 + st.2.1).toNat - (7 * st.1).toNat by omega,e1,show (7 * st.1 + 5 * st.2.1 - (7 * st.1 + st.2.1)).toNat = (7 * st.1 + 5 * st.2.1).toNat - (7 * st.1 + st.2.1).toNat by omega,e2,List.take_append_drop]
theorem QbU {st:St} (w:WF st) (h:NBd st.2.2):Kw (stT st) = some st:=by
 have R:=Q2r w h
 have ⟨l1,l2,l3,l4⟩:=QaD w
 have ⟨q1,q2,q3,q4,q5⟩:=w
 have ne:∀ r ∈ Xu st,NBd r ∧ r.length ≤ 300 ∧ r ≠ []:=fun r hr=>⟨(R r hr).1,(R r hr).2,fun z=>by
  subst z
  unfold Xu at hr
  simp only [Q7,Qn,or_false] at hr
  rcases hr with z | z | z | z | z
  ·cases z
  ·rw [← z] at l1; simp at l1; omega
  ·rw [← z] at l2; simp at l2; omega
  ·rw [← z] at l3; simp at l3; omega
  ·rw [← z] at l4; simp at l4⟩
 have m:mapM Q7X ((Xu st).map Kd) = some (Xu st):=Q58 ne
 have ap:=Qah w
 have is:=Q7F w
 unfold Kw
 rw [if_neg (by simp),Q1,QaV w h,Q1,Q52 (by rw [Q3]; exact (show (5:Nat) ≤ 1000000 by decide))]
 refine (congrArg (fun z=>Option.bind (Option.map (fun v12=>((Xu st).map Kd,v12)) z) _) m).trans ?_
 rw [Qb,Q1]
 dsimp only
 have a0:atI (Xu st) 0 = some [st.1,st.2.1]:=rfl
 have a1:atI (Xu st) 1 = some (Xi st.2.2 none (some (7 * st.1))):=rfl
 have a2:atI (Xu st) 2 = some (Xi st.2.2 (some (7 * st.1)) (some ((7 * st.1) + st.2.1))):=rfl
 have a3:atI (Xu st) 3 = some (Xi st.2.2 (some ((7 * st.1) + st.2.1)) (some ((7 * st.1) + (5 * st.2.1)))):=rfl
 have a4:atI (Xu st) 4 = some (Xi st.2.2 (some ((7 * st.1) + (5 * st.2.1))) none):=rfl
 have b0:atI [st.1,st.2.1] 0 = some st.1:=rfl
 have b1:atI [st.1,st.2.1] 1 = some st.2.1:=rfl
 have n5:Wo (Xu st) = 5:=rfl
 have n2:Wo [st.1,st.2.1] = 2:=rfl
 have u2:QbA [st.1,st.2.1] = some (st.1,st.2.1):=rfl
 have ct:Xi (Xu st) (some 1) none = [Xi st.2.2 none (some (7 * st.1)),Xi st.2.2 (some (7 * st.1)) (some ((7 * st.1) + st.2.1)),Xi st.2.2 (some ((7 * st.1) + st.2.1)) (some ((7 * st.1) + (5 * st.2.1))),Xi st.2.2 (some ((7 * st.1) + (5 * st.2.1))) none]:=rfl
 simp -implicitDefEqProofs only [a0,a1,a2,a3,a4,b0,b1,n5,n2,u2,ct,Q1,Qb,decide_true,Bool.not_true,Qw,if_false,Q93 w,Q6Y q3 q4]
 rw [Qcv (by simp),Qcv (by simp)]
 have el:List.map (fun x37:List Int=>Wo x37) [Xi st.2.2 none (some (7 * st.1)),Xi st.2.2 (some (7 * st.1)) (some ((7 * st.1) + st.2.1)),Xi st.2.2 (some ((7 * st.1) + st.2.1)) (some ((7 * st.1) + (5 * st.2.1))),Xi st.2.2 (some ((7 * st.1) + (5 * st.2.1))) none] = List.map (fun x32:Int × Int=>x32.2 - x32.1) [(0,7 * st.1),(7 * st.1,7 * st.1 + st.2.1),(7 * st.1 + st.2.1,7 * st.1 + st.2.1 + 4 * st.2.1),(7 * st.1 + st.2.1 + 4 * st.2.1,7 * st.1 + 5 * st.2.1 + 82)]:=by
  simp only [Qm,List.map_nil,Wo]
  congr 1
  ·omega
  ·congr 1
   ·omega
   ·congr 1
    ·omega
    ·congr 1
     omega
 rw [Qb,Q1,Q1]
 rw [el,decide_eq_true rfl]
 simp -implicitDefEqProofs only [Q1,Qb,Bool.not_true,Qw,if_false]
 rw [Q8O (by omega)]
 simp -implicitDefEqProofs only [Q1,Qb]
 rw [Q8O (by rw [Qs]; omega)]
 simp -implicitDefEqProofs only [Q1,Qb]
 rw [Q8O (by rw [Qs,Qs]; omega)]
 simp -implicitDefEqProofs only [Q1,Qb]
 rw [ap]
 unfold Q2u
 dsimp only
 rw [is]
 rfl
theorem Wt.eq04 {α:Type} {o:Option α} {a:α} (h:Wt o fun r=>r = a):o = some a:=by
 obtain ⟨r,e,q⟩:=h
 rw [e,q]
theorem QbX {st:St} (w:WF st) (h:NBd st.2.2):Q1c st = some true:=by
 have bg:Bg st:=fun c hc=>by
  have:=h c hc
  unfold NB at this
  omega
 obtain ⟨z,hz,_⟩:=Qam w bg (P:=fun _=>True) trivial
 unfold Q1c
 rw [Q9Q w h,Q1,Q8r w h,Q1,decide_eq_true rfl,if_neg (by simp),QbU w h,Q1,if_pos rfl,hz,Q1,Qb,Q1,decide_eq_true rfl,if_pos rfl,Q8r w h]
 simp
theorem Qdv (ns:List Int):Q9z ns = some true:=by
 have hk:(Q4N ns).cs.length ≤ 63:=by
  show ((ns.take 63).reverse).length ≤ 63
  rw [List.length_reverse,Je]
  omega
 refine Wt.eq04 ?_
 unfold Q9z
 refine Jv (Q2L (by rw [Q5Y,Yf]; decide) (Q29 (fun st=>WF st ∧ NBd st.2.2) (fun _ (s:Dk)=>s.cs.length ≤ 63) hk (fun x xs s hs=>Xp (Qdt hs fun st k2 ws bs hk2=>⟨⟨ws,bs⟩,hk2⟩)) fun ys k1 hl hq hk1=>?_))
 rw [Q5Y,Yf] at hl
 refine Jv (Q3u hk1 (by simp) (by simp) fun far hf k2 hk2=>?_)
 have fb:-NB ≤ far ∧ far ≤ NB:=by
  simp only [Q7,Qn,or_false] at hf
  unfold NB
  omega
 have rp:∀ n:Nat,n ≤ 300 → Q3L [far] (n:Int) = some (Q8 n far):=fun n hn=>by
  obtain ⟨_,e1,e2⟩:Wt (Q3L [far] (n:Int)) fun z=>z = Q8 n far:=Qat (by omega) (by omega) (by rw [Int.toNat_natCast])
  rw [e1,e2]
 have r1:Q3L [far] 111 = some (Q8 111 far):=rp 111 (by decide)
 have r2:Q3L [far] 198 = some (Q8 198 far):=rp 198 (by decide)
 dsimp only
 rw [r1,r2,Q1,Qb,Q1,Q8O (by simp only [Qe,Qu]; omega),Qb,Q1]
 dsimp only
 have lX:(ys ++ [((2:Int),(3:Int),Q8 111 far),(8,12,Q8 198 far)]).length = ys.length + 2:=by rw [Qs]; rfl
 have l2:=Q70 (xs:=ys ++ [((2:Int),(3:Int),Q8 111 far),(8,12,Q8 198 far)]) none (some 2)
 rw [Q8O (by omega),Q1]
 have all:∀ st ∈ ys ++ [((2:Int),(3:Int),Q8 111 far),(8,12,Q8 198 far)],WF st ∧ NBd st.2.2:=fun st hst=>by
  rcases Q9.mp hst with q | q
  ·exact hq st q
  ·simp only [Q7,Qn,or_false] at q
   have rb:∀ n,NBd (Q8 n far):=fun n c hc=>by rw [List.eq_of_mem_replicate hc]; exact fb
   rcases q with rfl | rfl
   ·exact ⟨⟨by dsimp only; omega,by dsimp only; omega,by dsimp only; omega,by dsimp only; omega,by simp⟩,rb _⟩
   ·exact ⟨⟨by dsimp only; omega,by dsimp only; omega,by dsimp only; omega,by dsimp only; omega,by simp⟩,rb _⟩
 refine Jv (Q8C (fun _:Unit=>True) trivial (fun st hst s _=>?_) (fun s _=>?_))
 ·have hst:st ∈ ys ++ [((2:Int),(3:Int),Q8 111 far),(8,12,Q8 198 far)]:=by
   rcases Q9.mp hst with q | q
   ·exact q
   ·exact List.mem_of_mem_drop (List.mem_of_mem_take q)
  have ⟨w,h⟩:=all st hst
  rw [QbX w h,Q1,if_neg (by simp)]
  exact Xc ⟨_,rfl,trivial⟩
 ·rw [Sum.elim_inl]
  exact Xc rfl
end K04
namespace K04
open PySem PySem.Spec PyProof.Rows L2 Z
variable {ι τ σ ρ:Type}
theorem law_true:∀ ns:List Int,ns.length ≤ 63 → ∃ outs,φ_law [.scr ns] = some (.bool true,outs):=fun ns _=>⟨_,QdK ns true (Qdv ns)⟩
end K04
namespace K04
open PySem PySem.Spec PyProof.Rows L2 Z
theorem QcY {l:PySem.W.OpenLaw} {w:World} {K:PySem.W.Frag} {h:Heap} {mg:Str → Option Value} {fa:Addr} (X:K.In h) (G:h.Ns mainGlobals mg) (hfa:mg "law" = some (.ref fa))
  {f27:Addr} {od27 an27:Option Addr} {sl27:Array (Option Value)} {oc27 kV27 dc27 pm27 cd27 ct27:Value}
  {u0:Value}
  {u1:Value}
  {u2:Value}
  {u3:Value}
  {u4:Value}
  {u5:Value}
  {u6:Value}
  {u7:Value}
  {u8:Value}
  (F0:Yo K "is_number" "is_number" Q0P)
  (F1:Yo K "is_shape" "is_shape" Q1P)
  (F2:Yo K "many_cells" "many_cells" Q0B)
  (F3:Yo K "is_store" "is_store" Q0v)
  (F4:Yo K "map_first" "map_first" Q0K)
  (F5:Yo K "block_first" "block_first" Q05)
  (F6:Yo K "log_first" "log_first" Q11)
  (F7:Yo K "lines_of" "lines_of" Q1U)
  (F8:Yo K "row_text" "row_text" Q0r)
  (F9:Yo K "show_store" "show_store" Q0n)
  (F10:Yo K "number_in" "number_in" Q01)
  (F11:Yo K "read_store" "read_store" Vt)
  (F12:Yo K "_law_deck" "_law_deck" Q0Z)
  (F13:Yo K "_law_draw" "_law_draw" Q0M)
  (F14:Yo K "_law_pick" "_law_pick" Q17)
  (F15:Yo K "_law_shape" "_law_shape" Q0y)
  (F16:Yo K "_law_needs" "_law_needs" Q0A)
  (F17:Yo K "_law_left" "_law_left" Zv)
  (F18:Yo K "_law_enter" "_law_enter" Km)
  (F19:Yo K "_law_model" "_law_model" Ks)
  (F20:Yo K "_law_given" "_law_given" Ky)
  (F21:Yo K "_law_laid" "_law_laid" Q13)
  (F22:Yo K "_law_sound" "_law_sound" Q0C)
  (F23:Yo K "_law_number" "_law_number" Q03)
  (F24:Yo K "_law_any_store" "_law_any_store" Vm)
  (F25:Yo K "_law_text" "_law_text" Zu)
  (F26:Yo K "_law_is_so" "_law_is_so" Q0p)
  (a27:PySem.W.nsIn K mainGlobals "law" = some (some (.ref f27))) (l27:K.lookup f27 = some ⟨oc27,od27,.func (PySem.W.fnOf "law" "law" (defArgs Q1L) (defBody Q1L) (defScope Q1L) .none kV27 dc27 pm27 an27 cd27 ct27),sl27⟩) (c27:PySem.W.codeIn K cd27 "law" = true) (k27:PySem.W.keepIn K (.ref f27) = true)
  (b0:PySem.W.nsIn K mainGlobals "BLOCK_CELLS" = some (some u0)) (r0:Q4r K u0 (.int 4))
  (b1:PySem.W.nsIn K mainGlobals "FIGURES" = some (some u1)) (r1:Q4r K u1 (.str "0123456789"))
  (b2:PySem.W.nsIn K mainGlobals "HEAD_CELLS" = some (some u2)) (r2:Q4r K u2 (.int 7))
  (b3:PySem.W.nsIn K mainGlobals "LEAST_BLOCKS" = some (some u3)) (r3:Q4r K u3 (.int 3))
  (b4:PySem.W.nsIn K mainGlobals "LEAST_HEADS" = some (some u4)) (r4:Q4r K u4 (.int 2))
  (b5:PySem.W.nsIn K mainGlobals "LOG_CELLS" = some (some u5)) (r5:Q4r K u5 (.int 82))
  (b6:PySem.W.nsIn K mainGlobals "MOST_BLOCKS" = some (some u6)) (r6:Q4r K u6 (.int 12))
  (b7:PySem.W.nsIn K mainGlobals "MOST_FIGURES" = some (some u7)) (r7:Q4r K u7 (.int 40))
  (b8:PySem.W.nsIn K mainGlobals "MOST_HEADS" = some (some u8)) (r8:Q4r K u8 (.int 8))
  (z0:PySem.W.nsIn K mainGlobals "all" = some none)
  (z1:PySem.W.nsIn K mainGlobals "bool" = some none)
  (z2:PySem.W.nsIn K mainGlobals "enumerate" = some none)
  (z3:PySem.W.nsIn K mainGlobals "int" = some none)
  (z4:PySem.W.nsIn K mainGlobals "isinstance" = some none)
  (z5:PySem.W.nsIn K mainGlobals "len" = some none)
  (z6:PySem.W.nsIn K mainGlobals "list" = some none)
  (z7:PySem.W.nsIn K mainGlobals "range" = some none)
  (z8:PySem.W.nsIn K mainGlobals "repr" = some none)
  (z9:PySem.W.nsIn K mainGlobals "reversed" = some none)
  (z10:PySem.W.nsIn K mainGlobals "sorted" = some none)
  (z11:PySem.W.nsIn K mainGlobals "str" = some none)
  (z12:PySem.W.nsIn K mainGlobals "sum" = some none)
  (z13:PySem.W.nsIn K mainGlobals "tuple" = some none)
  (z14:PySem.W.nsIn K mainGlobals "zip" = some none)
  : ∃ fd:FuncData,(∀ (s:Shared) (v:Value),BindsTo s fd ⟨[v],[]⟩ [("_law_script",v)]) ∧ ∀ base:Heap,K.In base → base.Ns mainGlobals mg → FnG l.prog w K mg base CX0 7 fa fd ["_law_script"] (spF K 1 .n φ_law):=by
 cases hfa.symm.trans (PySem.W.mg_of X G a27)
 have T:Txt K mg:={ c_BLOCK_CELLS:=⟨_,_,PySem.W.mg_of X G b0,gcs r0⟩,c_FIGURES:=⟨_,_,PySem.W.mg_of X G b1,gcs r1⟩,c_HEAD_CELLS:=⟨_,_,PySem.W.mg_of X G b2,gcs r2⟩,c_LEAST_BLOCKS:=⟨_,_,PySem.W.mg_of X G b3,gcs r3⟩,c_LEAST_HEADS:=⟨_,_,PySem.W.mg_of X G b4,gcs r4⟩,c_LOG_CELLS:=⟨_,_,PySem.W.mg_of X G b5,gcs r5⟩,c_MOST_BLOCKS:=⟨_,_,PySem.W.mg_of X G b6,gcs r6⟩,c_MOST_FIGURES:=⟨_,_,PySem.W.mg_of X G b7,gcs r7⟩,c_MOST_HEADS:=⟨_,_,PySem.W.mg_of X G b8,gcs r8⟩,m_all:=PySem.W.mg_none_of X G z0,m_bool:=PySem.W.mg_none_of X G z1,m_enumerate:=PySem.W.mg_none_of X G z2,m_int:=PySem.W.mg_none_of X G z3,m_isinstance:=PySem.W.mg_none_of X G z4,m_len:=PySem.W.mg_none_of X G z5,m_list:=PySem.W.mg_none_of X G z6,m_range:=PySem.W.mg_none_of X G z7,m_repr:=PySem.W.mg_none_of X G z8,m_reversed:=PySem.W.mg_none_of X G z9,m_sorted:=PySem.W.mg_none_of X G z10,m_str:=PySem.W.mg_none_of X G z11,m_sum:=PySem.W.mg_none_of X G z12,m_tuple:=PySem.W.mg_none_of X G z13,m_zip:=PySem.W.mg_none_of X G z14 }
 refine ⟨PySem.W.fnOf "law" "law" (defArgs Q1L) (defBody Q1L) (defScope Q1L) .none kV27 dc27 pm27 an27 cd27 ct27,fun s v=>.of_eq rfl,fun base _ _=>?_⟩
 have h_is_number:=Xx F0 X G (Q5S (P:=l.prog) (w:=w) (base:=base) T )
 have h_is_shape:=Xx F1 X G (Q6d (P:=l.prog) (w:=w) (base:=base) T h_is_number)
 have h_many_cells:=Xx F2 X G (Q4y (P:=l.prog) (w:=w) (base:=base) T )
 have h_is_store:=Xx F3 X G (Q6B (P:=l.prog) (w:=w) (base:=base) T h_is_number h_is_shape h_many_cells)
 have h_map_first:=Xx F4 X G (Q5F (P:=l.prog) (w:=w) (base:=base) T )
 have h_block_first:=Xx F5 X G (Q4k (P:=l.prog) (w:=w) (base:=base) T h_map_first)
 have h_log_first:=Xx F6 X G (Q5o (P:=l.prog) (w:=w) (base:=base) T h_block_first)
 have h_lines_of:=Xx F7 X G (Q6p (P:=l.prog) (w:=w) (base:=base) T h_block_first h_log_first h_many_cells h_map_first)
 have h_row_text:=Xx F8 X G (Q6w (P:=l.prog) (w:=w) (base:=base) T )
 have h_show_store:=Xx F9 X G (Q4C (P:=l.prog) (w:=w) (base:=base) T h_lines_of h_row_text)
 have h_number_in:=Xx F10 X G (Q5D (P:=l.prog) (w:=w) (base:=base) T )
 have h_read_store:=Xx F11 X G (Q4w (P:=l.prog) (w:=w) (base:=base) T h_is_shape h_is_store h_lines_of h_number_in)
 have h__law_deck:=Xx F12 X G (Q5V (P:=l.prog) (w:=w) (base:=base) T )
 have h__law_draw:=Xx F13 X G (Q5s (P:=l.prog) (w:=w) (base:=base) T )
 have h__law_pick:=Xx F14 X G (Q5q (P:=l.prog) (w:=w) (base:=base) T h__law_draw)
 have h__law_shape:=Xx F15 X G (Q4A (P:=l.prog) (w:=w) (base:=base) T h__law_draw)
 have h__law_needs:=Xx F16 X G (Q4q (P:=l.prog) (w:=w) (base:=base) T )
 have h__law_left:=Xx F17 X G (Q5h (P:=l.prog) (w:=w) (base:=base) T h__law_needs)
 have h__law_enter:=Xx F18 X G (Q4p (P:=l.prog) (w:=w) (base:=base) T h__law_left h__law_needs)
 have h__law_model:=Xx F19 X G (Q4D (P:=l.prog) (w:=w) (base:=base) T h__law_draw h__law_enter h__law_left h__law_pick)
 have h__law_given:=Xx F20 X G (Q4B (P:=l.prog) (w:=w) (base:=base) T h__law_draw h__law_needs)
 have h__law_laid:=Xx F21 X G (Q5W (P:=l.prog) (w:=w) (base:=base) T )
 have h__law_sound:=Xx F22 X G (Q4E (P:=l.prog) (w:=w) (base:=base) T h__law_given h__law_laid h__law_model h__law_shape)
 have h__law_number:=Xx F23 X G (Q4n (P:=l.prog) (w:=w) (base:=base) T h__law_draw)
 have h__law_any_store:=Xx F24 X G (Q2p (P:=l.prog) (w:=w) (base:=base) T h__law_draw h__law_number h__law_sound)
 have h__law_text:=Xx F25 X G (Q5x (P:=l.prog) (w:=w) (base:=base) T )
 have h__law_is_so:=Xx F26 X G (Q4t (P:=l.prog) (w:=w) (base:=base) T h__law_text h_read_store h_show_store)
 exact QcJ T h__law_any_store h__law_deck h__law_is_so h__law_pick (fun_mk (st:=Q1L) l27 c27 k27)
theorem all_of {l:PySem.W.OpenLaw} {w:World} {K:PySem.W.Frag} {h:Heap} {mg:Str → Option Value} {fa:Addr} (X:K.In h) (G:h.Ns mainGlobals mg) (hla:mg "law" = some (.ref fa)) (c:Q0F Qd2 Qd3 QcZ Qd4 Qdi w K)
  : ∃ fd:FuncData,(∀ (s:Shared) (v:Value),BindsTo s fd ⟨[v],[]⟩ [("_law_script",v)]) ∧ ∀ base:Heap,K.In base → base.Ns mainGlobals mg → FnG l.prog w K mg base CX0 7 fa fd ["_law_script"] (spF K 1 .n φ_law):=by
 obtain ⟨_,_,_,_,_,_,_,_,_,l,k,kp⟩:=c.law 27
 obtain ⟨_,b0,r0⟩:=c.con 0
 obtain ⟨_,b1,r1⟩:=c.con 1
 obtain ⟨_,b2,r2⟩:=c.con 2
 obtain ⟨_,b3,r3⟩:=c.con 3
 obtain ⟨_,b4,r4⟩:=c.con 4
 obtain ⟨_,b5,r5⟩:=c.con 5
 obtain ⟨_,b6,r6⟩:=c.con 6
 obtain ⟨_,b7,r7⟩:=c.con 7
 obtain ⟨_,b8,r8⟩:=c.con 8
 exact QcY X G hla (c.fd 0 0) (c.fd 1 1) (c.fd 2 2) (c.fd 3 3) (c.fd 4 4) (c.fd 5 5) (c.fd 6 6) (c.fd 7 7) (c.fd 8 8) (c.fd 9 9) (c.fd 10 10) (c.fd 11 11) (c.fd 12 12) (c.fd 13 13) (c.fd 14 14) (c.fd 15 15) (c.fd 16 16) (c.fd 17 17) (c.fd 18 18) (c.fd 19 19) (c.fd 20 20) (c.fd 21 21) (c.fd 22 22) (c.fd 23 23) (c.fd 24 24) (c.fd 25 25) (c.fd 26 26) (c.gl 27) l k kp b0 r0 b1 r1 b2 r2 b3 r3 b4 r4 b5 r5 b6 r6 b7 r7 b8 r8 (c.fr 28) (c.fr 29) (c.fr 30) (c.fr 31) (c.fr 32) (c.fr 33) (c.fr 34) (c.fr 35) (c.fr 36) (c.fr 37) (c.fr 38) (c.fr 39) (c.fr 40) (c.fr 41) (c.fr 42)
end K04
open PySem PySem.W PySem.Calls PyProof.Rows
set_option maxHeartbeats 0 in
theorem PySem.Challenge.cw_soundstore_k04_written_and_read_holds : PySem.Challenge.rw_soundstore_k04_written_and_read.Holds := by
 w_on; refine K04.hd_o fun said => ?_
 refine HandSHeadRun.head_any (r := K04.hdR) (q := K04.hdQ) (H := K04.hdH) (ob := K04.hdO) (M := 12000) (loose := K04.hdNm) (d := HandSHeadRun.topDef K04.hdR.prog 44) (kwd := []) K04.hdO_eq
  K04.hd_e K04.hd_f K04.run_w K04.hd_d K04.hd_p K04.hd_k K04.hd_1 said K04.hd_3 K04.hd_4 ?hw ?hc
 case hw => w_witness2
 case hc =>
  refine Z.zwalkE (l := PySem.Challenge.rw_soundstore_k04_written_and_read) (n := 63) (k := 7) (x := "_law_script") (φ := K04.φ_law) rfl (by decide) (by kernel_rfl) ⟨rfl, by decide, by decide⟩ ?F K04.law_true
  intro w mg fa h Y G hmg0
  obtain ⟨K, KX, c⟩ := Y
  have hmg : mg ("law" : PySem.Str) = some (.ref fa) := by
   have e : (HandSHeadRun.topDef K04.hdR.prog 44).name = ("law" : PySem.Str) := by kernel_rfl
   rw [← e]
   exact hmg0
  exact ⟨K, KX, K04.all_of KX G hmg c⟩

