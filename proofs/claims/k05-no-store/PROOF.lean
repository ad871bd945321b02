import PyProof.Rows.All
import Wide.All
import OpenK.AllK
import Wide.FinOn
import KE.KStateDown
import HandS.Words
import HandS.Head2
import HandS.HeadHook3
import PySem.Challenge.RW_soundstore_k05_texts_of_no_store
import HandS.ForMost
import HandS.Iter
import HandS.TupAny
import HandS.TupMul
import HandS.TupLe
import HandS.Deep
import HandS.IsInst
import KE.LtData
import KE.SortData
import PyProof.RowDictHeap
import PyProof.ReprRoads
import KE.DataEq
import HandS.RaiseMore
import HandS.Strs
import HandS.Rev
import HandS.Conv
import HandS.Style
import HandS.More
import KE.GoesMore
import KE.GoesEnum
import HandS.SetFor
import KE.KDictPairs
import HandS.Flow
import HandS.NoneIn
import HandS.TupSets
import KE.KeyNested
import KE.KDictCopyH
import KE.KDictSum
import KE.KTupSum
import PyProof.TupleIter
import HandS.Zip
import PyProof.SumAny
import PyProof.ListOps
import PyProof.FactsAll.subtypes_4
import HandS.ExcValue
import PyProof.Rows.IntBool
import PyProof.NeKinds
import HandS.WordsExc
import HandS.ExcIs
import HandS.TryOnly
import HandS.WrittenGet
import HandS.HotCalls
import HandS.Text
import KE.KDictZip
import HandS.ReplaceLit
import PyProof.StrBlock2
set_option Elab.async false
set_option linter.all false
set_option maxRecDepth 1000000
set_option maxHeartbeats 4000000
open PySem.PyData renaming int → Q0, str → Q3, bool → Qj, depthAll → Jc, eqv → Jm, list → Jt, plainAll → Jv, depth → X6
open Option renaming bind_some → Q1, map_some → Qi, map_eq_some_iff → Ql, bind_eq_some_iff → Qt, some → Ja
open List renaming length_map → Q4, mem_cons_of_mem → Q6, mem_cons_self → Q7, getElem?_eq_some_iff → Q8, mem_append_left → Q9, getElem?_eq_getElem → Qa, length_append → Qb, mem_append → Qc, mem_append_right → Qd, all_eq_true → Qe, mem_cons → Qg, length_cons → Qh, getElem?_set_ne → Qk, getElem?_append_left → Qm, replicate → Qn, getElem?_set_self → Qo, getElem?_map → Qp, map_cons → Qq, mem_singleton → Qr, not_mem_nil → Qu, length_set → Qv, length_nil → Qw, mem_map → Qy, getElem?_eq_none → Qz, getElem?_append_right → J1, append_nil → J4, map_map → Jb, getElem?_eq_none_iff → Jd, filterMap_cons → Jh, range → Jj, map_congr_left → Jl, contains_iff_mem → Jn, getD_eq_getElem?_getD → Jp, mem_of_getElem? → Jq, length_take → Jr, length_replicate → Ju, map_append → Jw, lookup_cons → X1, getElem?_replicate → X3, nodup_append → X4, take_of_length_le → X5, getElem?_zip_eq_some → X7, nodup_cons → X8, map_id → X9, replicate_succ → Xb, length_reverse → Xc, cons → Xd, any_eq_true → Xe, length_drop → Xf, getElem_mem → Xg
open Bool renaming and_eq_true → Q5, false_eq_true → Qx, or_eq_true → Jg, not_eq_true' → Ji, false_ne_true → X0, not_true → Xa
open Nat renaming lt_of_lt_of_le → Qs, le_trans → J3, ne_of_gt → Je, le_refl → Jf, le_add_right → Jk, zero_le → Jo, add_lt_add_left → Js, ne_of_lt → Jz
open Sum renaming inl → Jx, elim → X2
open Int renaming eq_ofNat_of_zero_le → Jy
namespace Z
open PySem PySem.Spec PyProof.Rows L2
abbrev D:=PyData
mutual
def kRp (K:PySem.W.Frag):Nat → Value → Option (V × D)
 | 0,_=>none
 | n + 1,u=>match u with
  | .none=>some (.non,.none)
  | .bool b=>some (.bl b,.bool b)
  | .int i _=>some (.int i,.int i)
  | .str x _=>some (.str x,.str x)
  | .ref a=>match K.lookup a with
   | some ⟨.type "tuple",_,.seq its _,_⟩=>if its.size ≤ sizeLine then (QdI K n its.toList).map fun p=>(.ref a,.tuple p.2) else none
   | _=>none
  | _=>none
def QdI (K:PySem.W.Frag):Nat → List Value → Option (List V × List D)
 | 0,_=>none
 | n + 1,us=>match us with
  | []=>some ([],[])
  | u :: r=>match kRp K n u,QdI K n r with
   | some p,some q=>some (p.1 :: q.1,p.2 :: q.2)
   | _,_=>none
end
def kDn (K:PySem.W.Frag):Value → Bool
 | .ref a=>match K.lookup a with
  | some ⟨.type "tuple",none,_,_⟩=>true
  | _=>false
 | _=>false
def Q29 (c d:Str):Bool:=(c == d) || (d == "StoreError")
def QeO (K:PySem.W.Frag) (C:Addr):Bool:=PySem.W.excIn K C [.type "ValueError",.type "Exception",.type "BaseException",.type "object"] "ValueError.__new__" && PySem.W.keepIn K (.ref C) && (PySem.W.subIn K (.ref C) (.type "BaseException") == some true) && (match PySem.W.typeIn K (.ref C) with | some (.type t)=>t == "type" | _=>false)
 && (match PySem.W.findIn K (.ref C) "__getattribute__" with | some (some (.builtin t))=>t == "BaseException.__getattribute__" | _=>false) && (match PySem.W.findIn K (.ref C) "__getattr__" with | some none=>true | _=>false) && PySem.W.hasDictIn K C
 && (match PySem.W.findIn K (.ref C) "__class__" with | some (some (.builtin t))=>t == "object.__class__" | _=>false) && (match PySem.W.specialIn K (.builtin "object.__class__") "__get__" with | some (some (.builtin t))=>t == "getset_descriptor.__get__" | _=>false) && (PySem.W.takesIn K (.builtin "object.__class__") == some true) && (PySem.W.mroIn K C (.type "object") == some true) && (PySem.W.kitOne K (.ref C) (.type "ValueError") == some true)
def QjY (K:PySem.W.Frag) (ns:List Str):Bool:=ns.all fun c=>match PySem.W.nsIn K mainGlobals c with
 | some (some (.ref C))=>QeO K C && ns.all fun d=>match PySem.W.nsIn K mainGlobals d with
  | some (some (.ref D))=>(PySem.W.kitOne K (.ref C) (.ref D) == some (Q29 c d)) && (PySem.W.exmOne K (.ref C) (.ref D) == some (Q29 c d))
  | _=>false
 | _=>false
open He
def QfB (K:PySem.W.Frag) (x:Str):Option D:=match PySem.W.nsIn K mainGlobals x with
 | some (some u)=>(kRp K 40 u).map (·.2)
 | _=>none
def Qk2 (o:Obj):List Addr:=He.refV o.cls ++ match o.data with
 | .seq its _=>its.toList.flatMap He.refV
 | .dict es _=>es.toList.flatMap fun e=>He.refV e.val
 | .func fd=>He.refV fd.code
 | .cls cd=>cd.ns :: cd.mro.flatMap He.refV
 | _=>[]
def rfZ (g:Addr → Option Obj) (as:List Addr):List Addr:=as.flatMap fun a=>match g a with
 | some o=>Qk2 o
 | none=>[]
def asZ (g:Addr → Option Obj):List Addr:=(fun r1:List Addr=>(fun r2:List Addr=>(fun r3:List Addr=>mainGlobals :: (r1 ++ (r2 ++ (r3 ++ rfZ g r3)))) (rfZ g r2)) (rfZ g r1)) (rfZ g [mainGlobals])
abbrev AlZ:Type:=(AlT × Bool) × List (Option D)
def QiK (fa:List Fa) (fn:List DefD) (ts:List He.Tab) (ex:PySem.W.Frag → Bool) (cs:List (Str × D)) (g:Addr → Option Obj):AlZ:=((obsT fa fn ts (frG g (asZ g)),ex (frG g (asZ g))),cs.map fun c=>QfB (frG g (asZ g)) c.1)
def valZ (fn:List DefD) (ts:List He.Tab) (cs:List (Str × D)) (w:World):AlZ:=((valT fn ts w,true),cs.map fun c=>some c.2)
structure Q10 (fa:List Fa) (fn:List DefD) (ts:List He.Tab) (ex:PySem.W.Frag → Bool) (cs:List (Str × D)) (w:World) (K:PySem.W.Frag):Prop where
 t:SaysT fa fn ts w K
 more:ex K = true
 cs:cs.map (fun c=>QfB K c.1) = cs.map fun c=>some c.2
def Qi8 (fa:List Fa) (fn:List DefD) (ts:List He.Tab) (ex:PySem.W.Frag → Bool) (cs:List (Str × D)):PySem.W.Hook where
 α:=AlZ
 obs:=fun s=>QiK fa fn ts ex cs s.heap.get?
 val:=fun w=>valZ fn ts cs w
 says:=fun w h=>∃ K:PySem.W.Frag,K.In h ∧ Q10 fa fn ts ex cs w K
 of:=fun _ _ e=>⟨_,frG_in,⟨congrArg (fun z:AlZ=>z.1.1) e,congrArg (fun z:AlZ=>z.1.2) e,congrArg (fun z:AlZ=>z.2) e⟩⟩
 keeps:=fun _ _ _ ⟨K,hK,c⟩ k=>⟨K,PySem.W.Frag.In.keeps hK k,c⟩
theorem QgA {fa:List Fa} {fn:List DefD} {ts:List He.Tab} {ex:PySem.W.Frag → Bool} {cs:List (Str × D)} {g:Addr → Option Obj} {s:Shared} (h:∀ a,g a = s.heap.get? a):QiK fa fn ts ex cs g = (Qi8 fa fn ts ex cs).obs s:=by
 have e:g = s.heap.get?:=funext h
 rw [e] <;> rfl
abbrev dt (x d:Str) (st:Stmt):DefD:=⟨(x,none),d,d,defArgs st,defBody st,defScope st,[],[]⟩
end Z
namespace Z
open PySem
end Z
namespace Z
open PySem
end Z
namespace Z
open PySem PySem.W PySem.Calls PyProof.Rows
open He (Fa DefD)
def Qio (r:OpenRow) (M:Nat) (w:World) {α:Type} (f:SharedT → α) (v:α):Prop:=∀ os:OsState,(HandSHeadRun.endF (HandSHeadRun.stepQ (HandSHeadRun.denQ HandSHeadRun.tabQ) r.prog w) M r.prog w os).map f = some v
theorem Qio.to {r:OpenRow} {M:Nat} {w:World} {α β:Type} {f:SharedT → α} {a:α} (p:Qio r M w f a) (k:SharedT → β) (b:β) (h:∀ s,f s = a → k s = b):Qio r M w k b:=fun os=>by
 have p:=p os
 cases e:HandSHeadRun.endF (HandSHeadRun.stepQ (HandSHeadRun.denQ HandSHeadRun.tabQ) r.prog w) M r.prog w os with
 | none=>rw [e] at p; cases p
 | some s =>
  rw [e] at p
  have p:f s = a:=Ja.inj p
  show some (k s) = some b
  rw [h s p]
end Z
namespace K05
open PySem PySem.Spec PyProof.Rows L2 Z
def Wd (i:Nat):Stmt:=PySem.Challenge.pw_soundstore_k05_texts_of_no_store.main.body.getD i (.Pass ⟨0,0,0,0⟩)
def hdX:List Str:=["StoreError", "NoText", "Unsound", "NoPath", "NoWorths", "NoName", "Ring", "Taken", "NotEmpty", "Full", "NoPlace", "NoBack", "NoRow"]
def QkK:List He.Fa:=[.glo "is_number",.glo "is_shape",.glo "many_cells",.glo "is_store",.glo "map_first",.glo "block_first",.glo "log_first",.glo "lines_of",.glo "number_in",.glo "read_store",.glo "_law_deck",.glo "_law_draw",.glo "_law_pick",.glo "_law_shape",.glo "_law_needs",.glo "_law_left",.glo "_law_enter",.glo "_law_model",.glo "_law_given",.glo "_law_laid",.glo "_law_sound",.glo "_law_number",.glo "_law_any_store",.glo "_law_text",.glo "_law_word",.glo "_law_sign",.glo "_law_bent_line",.glo "_law_bent",.glo "_law_far_text",.glo "_law_word_read",.glo "_law_read",.glo "_law_is_refused",.glo "_law_is_so",.glo "law",.free "ValueError",.free "all",.free "bool",.free "enumerate",.free "int",.free "isinstance"]
def QkH:List He.Fa:=[.free "len",.free "list",.free "range",.free "repr",.free "reversed",.free "sorted",.free "str",.free "sum",.free "tuple",.free "zip"]
def Qjo:List He.Fa:=QkK ++ QkH
def Qka:List He.DefD:=[dt "is_number" "is_number" (Wd 23),dt "is_shape" "is_shape" (Wd 24),dt "many_cells" "many_cells" (Wd 25),dt "is_store" "is_store" (Wd 26),dt "map_first" "map_first" (Wd 28),dt "block_first" "block_first" (Wd 29),dt "log_first" "log_first" (Wd 30),dt "lines_of" "lines_of" (Wd 34),dt "number_in" "number_in" (Wd 35),dt "read_store" "read_store" (Wd 36),dt "_law_deck" "_law_deck" (Wd 38),dt "_law_draw" "_law_draw" (Wd 39),dt "_law_pick" "_law_pick" (Wd 40),dt "_law_shape" "_law_shape" (Wd 41),dt "_law_needs" "_law_needs" (Wd 42),dt "_law_left" "_law_left" (Wd 43),dt "_law_enter" "_law_enter" (Wd 44),dt "_law_model" "_law_model" (Wd 45),dt "_law_given" "_law_given" (Wd 46),dt "_law_laid" "_law_laid" (Wd 47),dt "_law_sound" "_law_sound" (Wd 48),dt "_law_number" "_law_number" (Wd 49),dt "_law_any_store" "_law_any_store" (Wd 50),dt "_law_text" "_law_text" (Wd 51),dt "_law_word" "_law_word" (Wd 52),dt "_law_sign" "_law_sign" (Wd 53),dt "_law_bent_line" "_law_bent_line" (Wd 54),dt "_law_bent" "_law_bent" (Wd 55),dt "_law_far_text" "_law_far_text" (Wd 56),dt "_law_word_read" "_law_word_read" (Wd 57),dt "_law_read" "_law_read" (Wd 58),dt "_law_is_refused" "_law_is_refused" (Wd 59),dt "_law_is_so" "_law_is_so" (Wd 60),dt "law" "law" (Wd 61)]
def QjJ:List He.DefD:=Qka
def Qk1:List He.Tab:=[]
def Qiu:List (Str × D):=[("BLOCK_CELLS",.int 4),("FIGURES",.str "0123456789"),("HEAD_CELLS",.int 7),("LEAST_BLOCKS",.int 3),("LEAST_HEADS",.int 2),("LOG_CELLS",.int 82),("MOST_BLOCKS",.int 12),("MOST_FIGURES",.int 40),("MOST_HEADS",.int 8)]
def Qgi (K:PySem.W.Frag):Bool:=QjY K hdX
def QkJ:List Str:=["__name__", "StoreError", "NoText", "Unsound", "NoPath", "NoWorths", "NoName", "Ring", "Taken", "NotEmpty", "Full", "NoPlace", "NoBack", "NoRow", "LEAST_HEADS", "MOST_HEADS", "LEAST_BLOCKS", "MOST_BLOCKS", "HEAD_CELLS", "BLOCK_CELLS", "PAIRS", "LOG_CELLS", "is_number", "is_shape"]
def Qk6:List Str:=["many_cells", "is_store", "map_first", "block_first", "log_first", "FIGURES", "MOST_FIGURES", "lines_of", "number_in", "read_store", "_law_deck", "_law_draw", "_law_pick", "_law_shape", "_law_needs", "_law_left", "_law_enter", "_law_model", "_law_given", "_law_laid", "_law_sound", "_law_number", "_law_any_store", "_law_text"]
def QkA:List Str:=["_law_word", "_law_sign", "_law_bent_line", "_law_bent", "_law_far_text", "_law_word_read", "_law_read", "_law_is_refused", "_law_is_so"]
def hdNm:List Str:=QkJ ++ Qk6 ++ QkA
abbrev hdR:PySem.W.OpenRow:=PySem.W.OpenLaw.row PySem.Challenge.rw_soundstore_k05_texts_of_no_store
abbrev hdQ:Program:=PySem.W.view hdR.prog [61]
abbrev hdH:PySem.W.Hook:=Qi8 Qjo QjJ Qk1 Qgi Qiu
def hdO (s:PySem.W.SharedT):AlZ:=QiK Qjo QjJ Qk1 Qgi Qiu (HandSHeadRun.getT s)
theorem hdO_eq (s:PySem.W.SharedT):hdO s = hdH.obs s.abs:=QgA (HandSHeadRun.getT_eq s)
theorem QdX (w:World):HandSHeadRun.RunEq hdR hdQ hdH hdO 12000 hdNm (w.withFollow "special-get-raises" false):=by
 intro os
 kernel_rfl
theorem QfO (w:World):HandSHeadRun.RunEq hdR hdQ hdH hdO 12000 hdNm (w.withFollow "special-get-raises" true):=by
 intro os
 kernel_rfl
theorem run_w (w:World):HandSHeadRun.RunEq hdR hdQ hdH hdO 12000 hdNm w:=PySem.W.byRow2 "special-get-raises" (P:=fun w=>HandSHeadRun.RunEq hdR hdQ hdH hdO 12000 hdNm w) QdX QfO w
end K05
namespace K05
open PySem PySem.W PySem.Calls PyProof.Rows
theorem hd_o (h:OpenRow.wellSaid (OpenLaw.row PySem.Challenge.rw_soundstore_k05_texts_of_no_store) = true → OpenRow.Holds (OpenLaw.row PySem.Challenge.rw_soundstore_k05_texts_of_no_store)):OpenLaw.Holds PySem.Challenge.rw_soundstore_k05_texts_of_no_store:=by
 o_law
 rename_i q
 exact h q
abbrev hdD:DefRec:=HandSHeadRun.topDef hdR.prog 61
theorem hd_e:opening hdR.prog = plainProg hdR.prog.main.scope.names:=by kernel_rfl
theorem hd_f:∀ s,fenceModules? hdR.prog s = some s:=fun s=>by kernel_rfl
theorem hd_d:defOf hdQ hdR.name = some (hdD,[]):=by kernel_rfl
theorem hd_p:hdR.prog.theDef hdR.name = some (hdD.params,hdD.body,hdD.scope):=by kernel_rfl
theorem hd_k:kwWritten? hdD.params.kwonlyargs hdD.params.kw_defaults = some []:=by kernel_rfl
theorem hd_1:(!hdR.writes || hdR.records.isEmpty) = true:=by rfl
theorem hd_3:(chainsOk hdQ && opensWell hdR.prog && (frees hdR.toRowW && hdR.within.isEmpty)) = true:=by decide +kernel
theorem hd_4:hdR.prog.bare:=⟨rfl,rfl,rfl,rfl,rfl,by decide +kernel⟩
end K05
namespace Z
open PySem PySem.Spec PyProof.Rows L2
def Q7m:Key → D
 | .inl i=>.int i
 | .inr s=>.str s
mutual
/-- the value v is the datum d,in the part G of the heap -/
inductive Rp (K:PySem.W.Frag) (G:Hp):V → D → Prop
 | non:Rp K G .non .none
 | bl (b:Bool):Rp K G (.bl b) (.bool b)
 | int (i:Int):Rp K G (.int i) (.int i)
 | str (x:Str):Rp K G (.str x) (.str x)
 | lst {a:Addr} {xs:List V} {ds:List D}:G a = some (.lst xs) → Rps K G xs ds → Rp K G (.ref a) (.list ds)
 | tup {a:Addr} {xs:List V} {ds:List D}:SqT K G a xs → Rps K G xs ds → Rp K G (.ref a) (.tuple ds)
 | dic {a:Addr} {o:Obj} {kvs:List (Key × V)} {ds:List (D × D)}:G a = some (.frz o (.dK kvs)) → RpK K G kvs ds → Rp K G (.ref a) (.dict ds)
inductive Rps (K:PySem.W.Frag) (G:Hp):List V → List D → Prop
 | nil:Rps K G [] []
 | cons {v:V} {vs:List V} {d:D} {ds:List D}:Rp K G v d → Rps K G vs ds → Rps K G (v :: vs) (d :: ds)
inductive RpK (K:PySem.W.Frag) (G:Hp):List (Key × V) → List (D × D) → Prop
 | nil:RpK K G [] []
 | cons {k:Key} {v:V} {r:List (Key × V)} {d:D} {ds:List (D × D)}:Rp K G v d → RpK K G r ds → RpK K G ((k,v) :: r) ((Q7m k,d) :: ds)
end
theorem Same.sqt {K:PySem.W.Frag} {H H':Hp} {a:Addr} {xs:List V} (e:Same H H') (h:SqT K H a xs):SqT K H' a xs:=by
 rcases h with h | h
 ·rcases h with h | ⟨o,h⟩
  ·exact .inl (.inl (e _ _ h))
  ·exact .inl (.inr ⟨o,e _ _ h⟩)
 ·exact .inr h
section
variable {K:PySem.W.Frag} {G G':Hp}
mutual
theorem Rp.mono (e:Same G G'):∀ {v:V} {d:D},Rp K G v d → Rp K G' v d
 | _,_,.non=>.non
 | _,_,.bl b=>.bl b
 | _,_,.int i=>.int i
 | _,_,.str x=>.str x
 | _,_,.lst h r=>.lst (e _ _ h) (Rps.mono e r)
 | _,_,.tup h r=>.tup (Same.sqt e h) (Rps.mono e r)
 | _,_,.dic h r=>.dic (e _ _ h) (RpK.mono e r)
theorem Rps.mono (e:Same G G'):∀ {vs:List V} {ds:List D},Rps K G vs ds → Rps K G' vs ds
 | _,_,.nil=>.nil
 | _,_,.cons h r=>.cons (Rp.mono e h) (Rps.mono e r)
theorem RpK.mono (e:Same G G'):∀ {vs:List (Key × V)} {ds:List (D × D)},RpK K G vs ds → RpK K G' vs ds
 | _,_,.nil=>.nil
 | _,_,.cons h r=>.cons (Rp.mono e h) (RpK.mono e r)
end
theorem Rps.length:∀ {vs:List V} {ds:List D},Rps K G vs ds → vs.length = ds.length
 | _,_,.nil=>rfl
 | _,_,.cons _ r=>congrArg (· + 1) r.length
theorem Rps.append:∀ {vs ws:List V} {ds es:List D},Rps K G vs ds → Rps K G ws es → Rps K G (vs ++ ws) (ds ++ es)
 | _,_,_,_,.nil,s=>s
 | _,_,_,_,.cons h r,s=>.cons h (r.append s)
theorem Rps.take:∀ {vs:List V} {ds:List D} (n:Nat),Rps K G vs ds → Rps K G (vs.take n) (ds.take n)
 | _,_,0,_=>by simpa using Rps.nil
 | _,_,_ + 1,.nil=>by simpa using Rps.nil
 | _,_,n + 1,.cons h r=>by simpa using Rps.cons h (r.take n)
theorem Rps.drop:∀ {vs:List V} {ds:List D} (n:Nat),Rps K G vs ds → Rps K G (vs.drop n) (ds.drop n)
 | _,_,0,r=>r
 | _,_,_ + 1,.nil=>.nil
 | _,_,n + 1,.cons _ r=>r.drop n
theorem Rps.get:∀ {vs:List V} {ds:List D} {i:Nat} {d:D},Rps K G vs ds → ds[i]? = some d → ∃ v,vs[i]? = some v ∧ Rp K G v d
 | _,_,_,_,.nil,e=>by simp at e
 | _,_,0,_,.cons h _,e=>by simp at e; subst e; exact ⟨_,rfl,h⟩
 | _,_,i + 1,d,.cons _ r,e=>by
  obtain ⟨v,h1,h2⟩:=Rps.get (i:=i) (d:=d) r (by simpa using e)
  exact ⟨v,by simpa using h1,h2⟩
theorem Rps.set:∀ {vs:List V} {ds:List D} {v:V} {d:D} (i:Nat),Rps K G vs ds → Rp K G v d → Rps K G (vs.set i v) (ds.set i d)
 | _,_,_,_,_,.nil,_=>.nil
 | _,_,_,_,0,.cons _ r,h=>.cons h r
 | _,_,_,_,i + 1,.cons q r,h=>.cons q (r.set i h)
theorem Rps.eraseIdx:∀ {vs:List V} {ds:List D} (i:Nat),Rps K G vs ds → Rps K G (vs.eraseIdx i) (ds.eraseIdx i)
 | _,_,_,.nil=>.nil
 | _,_,0,.cons _ r=>r
 | _,_,i + 1,.cons q r=>.cons q (r.eraseIdx i)
theorem Rps.ints:∀ {vs:List V} {ns:List Int},Rps K G vs (ns.map Q0) → vs = ns.map V.int
 | _,[],.nil=>rfl
 | _,n :: ns,.cons h r=>by
  cases h
  rw [r.ints]
  rfl
theorem Q58:∀ (ns:List Int),Rps K G (ns.map V.int) (ns.map Q0)
 | []=>.nil
 | n :: ns=>.cons (.int n) (Q58 ns)
end
mutual
def noL:D → Bool
 | .list _=>false
 | .dict _=>false
 | .tuple xs=>Qh6 xs
 | _=>true
def Qh6:List D → Bool
 | []=>true
 | x :: xs=>noL x && Qh6 xs
end
section
variable {K:PySem.W.Frag} {G G':Hp}
mutual
/-- tuples alone are looked at -/
theorem Rp.flat (e:∀ a xs,SqT K G a xs → SqT K G' a xs):∀ {v:V} {d:D},noL d = true → Rp K G v d → Rp K G' v d
 | _,_,_,.non=>.non
 | _,_,_,.bl b=>.bl b
 | _,_,_,.int i=>.int i
 | _,_,_,.str x=>.str x
 | _,_,h0,.lst _ _=>by simp [noL] at h0
 | _,_,h0,.tup h r=>.tup (e _ _ h) (Rps.flat e (by simpa [noL] using h0) r)
 | _,_,h0,.dic _ _=>by simp [noL] at h0
theorem Rps.flat (e:∀ a xs,SqT K G a xs → SqT K G' a xs):∀ {vs:List V} {ds:List D},Qh6 ds = true → Rps K G vs ds → Rps K G' vs ds
 | _,_,_,.nil=>.nil
 | _,_,h0,.cons h r=>by
  simp only [Qh6,Q5] at h0
  exact .cons (Rp.flat e h0.1 h) (Rps.flat e h0.2 r)
end
end
inductive Sl where
 /-- nothing is known -/
 | no
 /-- a datum -/
 | fz (d:D)
 /-- a list or dict of the frame's own: nobody else knows it -/
 | ow (d:D)
 /-- an own dict while it is locked -/
 | lk (ds:List (D × D))
 /-- a law's deck -/
 | dk (cs:List Int) (m n:Int)
 /-- the script -/
 | scr (ns:List Int)
 /-- an object of the frame's own: its class,its fields and their slots -/
 | ob (c:Str) (fs:List (Str × Nat))
 /-- a field that isn't there yet -/
 | ab
 /-- a caught exception -/
 | xv (a:Addr)
 /-- an own dict of own lists -/
 | dl (ds:List (D × D))
inductive Fr where
 | n | l | t | p
 | s (j:Nat)
def Q0n (K:PySem.W.Frag) (F H:Hp) (p:Addr):D → Prop
 | .list ds=>∃ xs,H p = some (.lst xs) ∧ Rps K F xs ds
 | .dict ds=>∃ kvs,H p = some (.dK kvs) ∧ RpK K F kvs ds
 | _=>False
def Q8t (K:PySem.W.Frag) (F H:Hp) (p:Addr):D → Prop
 | .list ds=>∃ xs,H p = some (.lst xs) ∧ Rps K F xs ds
 | .dict ds=>∃ o kvs,H p = some (.frz o (.dK kvs)) ∧ RpK K F kvs ds
 | _=>False
def PlT (K:PySem.W.Frag) (F:Hp) (v:V) (d:D):Prop:=∃ (p:Addr) (o:Obj) (xs:List V) (ds:List D),v = .ref p ∧ d = .tuple ds ∧ F p = some (.frz o (.tup xs)) ∧ o.dict = none ∧ Rps K F xs ds
def Q0r (K:PySem.W.Frag) (c:Str) (C:Addr):Prop:=PySem.W.nsIn K mainGlobals c = some (some (.ref C))
inductive DLs (K:PySem.W.Frag) (F H:Hp):List (Key × V) → List (D × D) → List Addr → Prop
 | nil:DLs K F H [] [] []
 | cons {k:Key} {q:Addr} {xs:List V} {ds:List D} {r:List (Key × V)} {s:List (D × D)} {A:List Addr}:H q = some (.lst xs) → Rps K F xs ds → DLs K F H r s A → DLs K F H ((k,.ref q) :: r) ((Q7m k,.list ds) :: s) (q :: A)
theorem DLs.mono {K:PySem.W.Frag} {F F' H H':Hp} (e:Same F F'):∀ {kvs:List (Key × V)} {ds:List (D × D)} {A:List Addr},(∀ a ∈ A,H' a = H a) → DLs K F H kvs ds A → DLs K F' H' kvs ds A
 | _,_,_,_,.nil=>.nil
 | _,_,_,k,.cons h r t=>.cons (by rw [k _ (by simp)]; exact h) (r.mono e) (t.mono e fun a ha=>k a (Q6 _ ha))
theorem DLs.there {K:PySem.W.Frag} {F H:Hp}:∀ {kvs:List (Key × V)} {ds:List (D × D)} {A:List Addr},DLs K F H kvs ds A → ∀ a ∈ A,∃ xs,H a = some (.lst xs)
 | _,_,_,.nil,a,ha=>by simp at ha
 | _,_,_,.cons h _ t,a,ha=>by
  rcases Qg.mp ha with rfl | m
  ·exact ⟨_,h⟩
  ·exact t.there a m
def Q0Z (K:PySem.W.Frag) (F H:Hp):Sl → Option V → List Addr → Prop
 | .no,_,A=>A = []
 | .fz d,v,A=>A = [] ∧ ∃ x,v = some x ∧ Rp K F x d
 | .ow d,v,A=>∃ p,v = some (.ref p) ∧ A = [p] ∧ Q0n K F H p d
 | .lk ds,v,A=>∃ p,v = some (.ref p) ∧ A = [p] ∧ Q8t K F H p (.dict ds)
 | .dk cs m n,v,A=>∃ p q,v = some (.ref p) ∧ A = [p,q] ∧ H p = some (.lst [.ref q,.int m,.int n]) ∧ H q = some (.lst (cs.map V.int))
 | .scr ns,v,A=>A = [] ∧ ∃ a,v = some (.ref a) ∧ SqL K F a (ns.map V.int)
 | .ab,v,A=>A = [] ∧ v = none
 | .xv a,v,A=>A = [] ∧ v = some (.ref a)
 | .dl ds,v,A=>∃ p kvs qs,v = some (.ref p) ∧ A = p :: qs ∧ (p :: qs).Nodup ∧ (kvs.map (·.1)).Nodup ∧ H p = some (.dK kvs) ∧ DLs K F H kvs ds qs
 | .ob c _,v,A=>∃ p dx C fvs,v = some (.ref p) ∧ A = [p,dx] ∧ Q0r K c C ∧ H p = some (.ins C dx fvs) ∧ H dx = some (.own p)
def jn (o:Option (Option V)):Option V:=o.join
structure Iom where
 f:Nat → Bool
 mv:Nat → Bool
instance:CoeFun Iom (fun _=>Nat → Bool):=⟨Iom.f⟩
def Iom.of (f:Nat → Bool):Iom:=⟨f,fun _=>false⟩
structure Fx where
 /-- slots that no statement stores to -/
 io:Iom
 /-- slots that are lent by the caller -/
 lt:Nat → Bool
 /-- fields of objects -/
 vt:Nat → Bool
 H0:Hp
 F0:Hp
 σ0:L2.St
 A0:Nat → List Addr
 mvl:∀ i,io.mv i = true → lt i = false
def Q4U (σ:L2.St) (fs:List (Str × Nat)):List (Str × V):=fs.filterMap fun q=>(jn σ[q.2]?).map fun v=>(q.1,v)
def Fx.any:Fx:=⟨Iom.of fun _=>false,fun _=>false,fun _=>false,fun _=>none,fun _=>none,[],fun _=>[],fun _ _=>rfl⟩
def ObR (io:Nat → Bool) (H:Hp) (v:Option V) (σ:L2.St) (fs:List (Str × Nat)):Prop:=(∀ q ∈ fs,io q.2 = true) ∧ ∀ p C dx fvs,v = some (.ref p) → H p = some (.ins C dx fvs) → fvs = Q4U σ fs
structure SR (K:PySem.W.Frag) (Y:Fx) (F H:Hp) (δ:List Sl) (σ:L2.St) (A:Nat → List Addr):Prop where
 len:δ.length = σ.length
 slot:∀ i s,δ[i]? = some s → Q0Z K F H s (jn σ[i]?) (A i)
 out:∀ i,δ[i]? = none → A i = []
 dis:∀ i j a,a ∈ A i → a ∈ A j → i = j
 hid:∀ i a,a ∈ A i → F a = none
 new:∀ i a,a ∈ A i → Y.lt i = false → Y.H0 a = none
 sub:Same F H
 fix:∀ i,Y.lt i = true → σ[i]? = Y.σ0[i]? ∧ A i = Y.A0 i
 ioA:∀ i,Y.lt i = true → True
 kp:∀ a o,Y.H0 a = some o → (∀ i,Y.lt i = true → a ∉ Y.A0 i) → H a = some o
 nw:∀ a,Y.F0 a = none → F a ≠ none → Y.H0 a = none
 f0:Same Y.F0 F
 lio:∀ i,(Y.lt i = true ∨ Y.vt i = true) → Y.io i = true
 ob:∀ (i:Nat) (c:Str) (fs:List (Str × Nat)),δ[i]? = some (Sl.ob c fs) → ObR Y.vt H (jn σ[i]?) σ fs
 vno:∀ (j:Nat),Y.io j = true → δ[j]? ≠ some Sl.no
theorem Q0n.mono {K:PySem.W.Frag} {F F' H H':Hp} {p:Addr} {d:D} (e:Same F F') (k:H' p = H p) (h:Q0n K F H p d):Q0n K F' H' p d:=by
 cases d with
 | list ds=>obtain ⟨xs,h1,h2⟩:=h; exact ⟨xs,by rw [k]; exact h1,h2.mono e⟩
 | dict ds=>obtain ⟨xs,h1,h2⟩:=h; exact ⟨xs,by rw [k]; exact h1,h2.mono e⟩
 | _=>exact h.elim
theorem Q0n.there {K:PySem.W.Frag} {F H:Hp} {p:Addr} {d:D} (h:Q0n K F H p d):(∃ xs,H p = some (.lst xs)) ∨ ∃ kvs,H p = some (.dK kvs):=by
 cases d with
 | list ds=>obtain ⟨xs,h1,_⟩:=h; exact .inl ⟨_,h1⟩
 | dict ds=>obtain ⟨xs,h1,_⟩:=h; exact .inr ⟨_,h1⟩
 | _=>exact h.elim
theorem Q8t.mono {K:PySem.W.Frag} {F F' H H':Hp} {p:Addr} {d:D} (e:Same F F') (k:H' p = H p) (h:Q8t K F H p d):Q8t K F' H' p d:=by
 cases d with
 | list ds=>obtain ⟨xs,h1,h2⟩:=h; exact ⟨xs,by rw [k]; exact h1,h2.mono e⟩
 | dict ds=>obtain ⟨o,xs,h1,h2⟩:=h; exact ⟨o,xs,by rw [k]; exact h1,h2.mono e⟩
 | _=>exact h.elim
def Thr (H:Hp) (a:Addr):Prop:=(∃ xs,H a = some (.lst xs)) ∨ (∃ kvs,H a = some (.dK kvs)) ∨ (∃ o kvs,H a = some (.frz o (.dK kvs))) ∨ (∃ C dx fs,H a = some (.ins C dx fs)) ∨ ∃ b,H a = some (.own b)
theorem Thr.some {H:Hp} {a:Addr} (h:Thr H a):∃ u,H a = some u:=by
 rcases h with ⟨_,e⟩ | ⟨_,e⟩ | ⟨_,_,e⟩ | ⟨_,_,_,e⟩ | ⟨_,e⟩ <;> exact ⟨_,e⟩
theorem Q8t.there {K:PySem.W.Frag} {F H:Hp} {p:Addr} {d:D} (h:Q8t K F H p d):Thr H p:=by
 cases d with
 | list ds=>obtain ⟨xs,h1,_⟩:=h; exact .inl ⟨_,h1⟩
 | dict ds=>obtain ⟨o,xs,h1,_⟩:=h; exact .inr (.inr (.inl ⟨_,_,h1⟩))
 | _=>exact h.elim
theorem Q0n.thr {K:PySem.W.Frag} {F H:Hp} {p:Addr} {d:D} (h:Q0n K F H p d):Thr H p:=by
 rcases h.there with e | e
 ·exact .inl e
 ·exact .inr (.inl e)
theorem Q0Z.there {K:PySem.W.Frag} {F H:Hp} {s:Sl} {v:Option V} {A:List Addr} (h:Q0Z K F H s v A) {a:Addr} (ha:a ∈ A):Thr H a:=by
 cases s with
 | no=>cases h; simp at ha
 | fz d=>obtain ⟨e,_⟩:=h; subst e; simp at ha
 | ow d=>obtain ⟨p,_,e,o⟩:=h; subst e; simp at ha; subst ha; exact o.thr
 | lk d=>obtain ⟨p,_,e,o⟩:=h; subst e; simp at ha; subst ha; exact o.there
 | dk cs m n =>
  obtain ⟨p,q,_,e,h1,h2⟩:=h
  subst e
  simp at ha
  rcases ha with rfl | rfl
  ·exact .inl ⟨_,h1⟩
  ·exact .inl ⟨_,h2⟩
 | scr ns=>obtain ⟨e,_⟩:=h; subst e; simp at ha
 | ab=>obtain ⟨e,_⟩:=h; subst e; simp at ha
 | xv a=>obtain ⟨e,_⟩:=h; subst e; simp at ha
 | dl ds =>
  obtain ⟨p,kvs,qs,_,e,_,_,h1,h2⟩:=h
  subst e
  rcases Qg.mp ha with rfl | m
  ·exact .inr (.inl ⟨_,h1⟩)
  ·exact .inl (h2.there a m)
 | ob c fs =>
  obtain ⟨p,dx,C,fvs,_,e,_,h1,h2⟩:=h
  subst e
  simp at ha
  rcases ha with rfl | rfl
  ·exact .inr (.inr (.inr (.inl ⟨_,_,_,h1⟩)))
  ·exact .inr (.inr (.inr (.inr ⟨_,h2⟩)))
theorem Q0Z.mono {K:PySem.W.Frag} {F F' H H':Hp} {s:Sl} {v:Option V} {A:List Addr} (e:Same F F') (k:∀ a ∈ A,H' a = H a) (h:Q0Z K F H s v A):Q0Z K F' H' s v A:=by
 cases s with
 | no=>exact h
 | fz d=>obtain ⟨e1,x,e2,r⟩:=h; exact ⟨e1,x,e2,r.mono e⟩
 | ow d=>obtain ⟨p,e1,e2,o⟩:=h; subst e2; exact ⟨p,e1,rfl,o.mono e (k p (by simp))⟩
 | lk d=>obtain ⟨p,e1,e2,o⟩:=h; subst e2; exact ⟨p,e1,rfl,o.mono e (k p (by simp))⟩
 | dk cs m n =>
  obtain ⟨p,q,e1,e2,h1,h2⟩:=h
  subst e2
  exact ⟨p,q,e1,rfl,by rw [k p (by simp)]; exact h1,by rw [k q (by simp)]; exact h2⟩
 | scr ns=>obtain ⟨e1,a,e2,r⟩:=h; exact ⟨e1,a,e2,e.seq r⟩
 | ab=>exact h
 | xv a=>exact h
 | dl ds =>
  obtain ⟨p,kvs,qs,e1,e2,nd,nk,h1,h2⟩:=h
  subst e2
  exact ⟨p,kvs,qs,e1,rfl,nd,nk,by rw [k p (by simp)]; exact h1,h2.mono e fun a ha=>k a (Q6 _ ha)⟩
 | ob c fs =>
  obtain ⟨p,dx,C,fvs,e1,e2,e3,h1,h2⟩:=h
  subst e2
  exact ⟨p,dx,C,fvs,e1,rfl,e3,by rw [k p (by simp)]; exact h1,by rw [k dx (by simp)]; exact h2⟩
section
variable {K:PySem.W.Frag} {Y:Fx} {F F' F1 F2 H H' H1 H2:Hp} {δ δ':List Sl} {σ:L2.St} {A:Nat → List Addr} {M M' R R':List Nat}
theorem SR.there (S:SR K Y F H δ σ A) {i:Nat} {a:Addr} (ha:a ∈ A i):Thr H a:=by
 cases e:δ[i]? with
 | none=>rw [S.out i e] at ha; simp at ha
 | some s=>exact (S.slot i s e).there ha
theorem SR.isSome (S:SR K Y F H δ σ A) {i:Nat} {a:Addr} (ha:a ∈ A i):H a ≠ none:=by
 obtain ⟨u,e⟩:=(S.there ha).some
 rw [e]; simp
theorem SR.nlt (S:SR K Y F H δ σ A) {i:Nat} (h:Y.io i = false):Y.lt i = false:=by
 cases e:Y.lt i with
 | false=>rfl
 | true=>rw [S.lio i (.inl e)] at h; cases h
theorem SR.nvt (S:SR K Y F H δ σ A) {i:Nat} (h:Y.io i = false):Y.vt i = false:=by
 cases e:Y.vt i with
 | false=>rfl
 | true=>rw [S.lio i (.inr e)] at h; cases h
theorem SR.obp (S:SR K Y F H δ σ A) {i:Nat} {c:Str} {fs:List (Str × Nat)} {p:Addr} (h:δ[i]? = some (.ob c fs)) (e:jn σ[i]? = some (.ref p)):p ∈ A i:=by
 obtain ⟨q,dx,C,fvs,e1,e2,_⟩:=S.slot i _ h
 rw [e] at e1
 cases e1
 rw [e2]
 simp
theorem SR.obK (S:SR K Y F H δ σ A) (k:∀ (i:Nat) (c:Str) (fs:List (Str × Nat)),δ[i]? = some (Sl.ob c fs) → ∀ a ∈ A i,H' a = H a):∀ (i:Nat) (c:Str) (fs:List (Str × Nat)),δ[i]? = some (Sl.ob c fs) → ObR Y.vt H' (jn σ[i]?) σ fs:=fun i c fs h=>by
 obtain ⟨h1,h2⟩:=S.ob i c fs h
 refine ⟨h1,fun p C dx fvs e1 e2=>h2 p C dx fvs e1 ?_⟩
 rw [← k i c fs h p (S.obp h e1)]
 exact e2
structure Stp (A:Nat → List Addr) (M:List Nat) (F H F' H':Hp):Prop where
 f:Same F F'
 nw:∀ a,F a = none → F' a ≠ none → H a = none
 kp:∀ a o,H a = some o → (∀ i ∈ M,a ∉ A i) → H' a = some o
theorem Stp.refl:Stp A M F H F H:=⟨Same.refl _,fun _ h h'=>absurd h h',fun _ _ h _=>h⟩
theorem Stp.mono (h:Stp A M F H F' H') (s:∀ i ∈ M,i ∈ M'):Stp A M' F H F' H':=⟨h.f,h.nw,fun a o e n=>h.kp a o e fun i hi=>n i (s i hi)⟩
theorem Stp.trans (S1:SR K Y F1 H1 δ' σ A) (h:Stp A M F H F1 H1) (h':Stp A M' F1 H1 F2 H2):Stp A (M ++ M') F H F2 H2:=by
 refine ⟨h.f.trans h'.f,fun a e n=>?_,fun a o e n=>?_⟩
 ·cases e1:F1 a with
  | some o=>exact h.nw a e (by rw [e1]; simp)
  | none =>
   have q:=h'.nw a e1 n
   cases e2:H a with
   | none=>rfl
   | some o =>
    by_cases c:∃ i ∈ M,a ∈ A i
    ·obtain ⟨i,_,hi⟩:=c
     exact absurd q (S1.isSome hi)
    ·rw [h.kp a o e2 fun i hi z=>c ⟨i,hi,z⟩] at q
     cases q
 ·exact h'.kp a o (h.kp a o e fun i hi=>n i (Q9 _ hi)) fun i hi=>n i (Qd _ hi)
def ex (R:List Nat) (A:Nat → List Addr) (F H:Hp):Hp:=fun a=>if ∃ i ∈ R,a ∈ A i then H a else F a
theorem Qff:ex [] A F H = F:=by
 funext a
 unfold ex
 rw [if_neg]
 simp
theorem Q2S (S:SR K Y F H δ σ A):Same (ex R A F H) H:=fun a o e=>by
 unfold ex at e
 split at e
 ·exact e
 ·exact S.sub a o e
theorem Q5Y (S:SR K Y F H δ σ A):Same F (ex R A F H):=fun a o e=>by
 unfold ex
 rw [if_neg]
 ·exact e
 ·rintro ⟨i,_,h⟩
  rw [S.hid i a h] at e
  cases e
theorem SR.laid (S:SR K Y F H δ σ A) {p:Addr} {o:HO} (hp:H p = none):SR K Y (upd F p o) (upd H p o) δ σ A:=by
 have hF:F p = none:=S.sub.free hp
 have sF:Same F (upd F p o):=fun b x e=>by rw [upd_ne (ne_of_none e hF)]; exact e
 have nA:∀ i a,a ∈ A i → a ≠ p:=fun i a h e=>by subst e; exact S.isSome h hp
 refine ⟨S.len,fun i s e=>(S.slot i s e).mono sF fun a ha=>upd_ne (nA i a ha),S.out,S.dis,fun i a h=>by rw [upd_ne (nA i a h)]; exact S.hid i a h,S.new,fun b x e=>?_,S.fix,S.ioA,fun a x e n=>?_,fun a e n=>?_,S.f0.trans sF,S.lio,S.obK fun i _ _ _ a ha=>upd_ne (nA i a ha),S.vno⟩
 ·by_cases c:b = p
  ·subst c; rw [upd_same] at e ⊢; exact e
  ·rw [upd_ne c] at e ⊢; exact S.sub _ _ e
 ·have q:=S.kp a x e n
  rw [upd_ne (ne_of_none q hp)]
  exact q
 ·by_cases c:a = p
  ·subst c
   cases e2:Y.H0 a with
   | none=>rfl
   | some x =>
    by_cases c2:∃ i,Y.lt i = true ∧ a ∈ Y.A0 i
    ·obtain ⟨i,hi,hA⟩:=c2
     rw [← (S.fix i hi).2] at hA
     exact absurd hp (S.isSome hA)
    ·have:=S.kp a x e2 fun i hi z=>c2 ⟨i,hi,z⟩
     rw [hp] at this
     cases this
  ·rw [upd_ne c] at n
   exact S.nw a e n
theorem Stp.laid (S:SR K Y F H δ σ A) {p:Addr} {o:HO} (hp:H p = none):Stp A M F H (upd F p o) (upd H p o):=by
 have hF:F p = none:=S.sub.free hp
 refine ⟨fun b x e=>by rw [upd_ne (ne_of_none e hF)]; exact e,fun a e n=>?_,fun a x e _=>by rw [upd_ne (ne_of_none e hp)]; exact e⟩
 by_cases c:a = p
 ·subst c; exact hp
 ·rw [upd_ne c] at n
  exact absurd e n
theorem SR.laidO (S:SR K Y F H δ σ A) {p:Addr} {o:HO} (hp:H p = none):SR K Y F (upd H p o) δ σ A:=by
 have nA:∀ i a,a ∈ A i → a ≠ p:=fun i a h e=>by subst e; exact S.isSome h hp
 refine ⟨S.len,fun i s e=>(S.slot i s e).mono (Same.refl _) fun a ha=>upd_ne (nA i a ha),S.out,S.dis,S.hid,S.new,fun b x e=>?_,S.fix,S.ioA,fun a x e n=>?_,S.nw,S.f0,S.lio,S.obK fun i _ _ _ a ha=>upd_ne (nA i a ha),S.vno⟩
 ·have q:=S.sub b x e
  rw [upd_ne (ne_of_none q hp)]
  exact q
 ·have q:=S.kp a x e n
  rw [upd_ne (ne_of_none q hp)]
  exact q
theorem Stp.laidO {p:Addr} {o:HO} (hp:H p = none):Stp A M F H F (upd H p o) :=
 ⟨Same.refl _,fun a e n=>absurd e n,fun a x e _=>by rw [upd_ne (ne_of_none e hp)]; exact e⟩
theorem SR.upd_free (S:SR K Y F H δ σ A) {p:Addr} {o:HO} (hF:F p = none) (nA:∀ j,p ∉ A j) (hY:Y.H0 p = none):SR K Y F (upd H p o) δ σ A:=by
 refine ⟨S.len,fun i s e=>(S.slot i s e).mono (Same.refl _) fun a ha=>upd_ne fun z=>nA i (by rw [← z]; exact ha),S.out,S.dis,S.hid,S.new,fun b x e=>?_,S.fix,S.ioA,fun a x e n=>?_,S.nw,S.f0,S.lio,S.obK fun i _ _ _ a ha=>upd_ne fun z=>nA i (by rw [← z]; exact ha),S.vno⟩
 ·have q:=S.sub b x e
  rw [upd_ne]
  ·exact q
  ·intro z
   subst z
   rw [hF] at e
   cases e
 ·have q:=S.kp a x e n
  rw [upd_ne]
  ·exact q
  ·intro z
   subst z
   rw [hY] at e
   cases e
def Vw (K:PySem.W.Frag) (F H:Hp) (A:Nat → List Addr) (R:List Nat) (v:V) (d:D):Prop:=Rp K F v d ∨ ∃ i ∈ R,∃ p,v = .ref p ∧ A i = [p] ∧ Q8t K F H p d
def Vws (K:PySem.W.Frag) (F H:Hp) (A:Nat → List Addr) (R:List Nat):List V → List D → Prop
 | [],[]=>True
 | v :: vs,d :: ds=>Vw K F H A R v d ∧ Vws K F H A R vs ds
 | _,_=>False
theorem Vw.nil {v:V} {d:D} (h:Vw K F H A [] v d):Rp K F v d:=by
 rcases h with h | ⟨i,hi,_⟩
 ·exact h
 ·simp at hi
theorem Vw.mono {v:V} {d:D} (h:Vw K F H A R v d) (s:∀ i ∈ R,i ∈ R'):Vw K F H A R' v d:=by
 rcases h with h | ⟨i,hi,q⟩
 ·exact .inl h
 ·exact .inr ⟨i,s i hi,q⟩
theorem Vw.step {v:V} {d:D} (h:Vw K F H A R v d) (S:SR K Y F H δ σ A) (st:Stp A M F H F' H') (dj:∀ i ∈ R,i ∉ M):Vw K F' H' A R v d:=by
 rcases h with h | ⟨i,hi,p,e,eA,o⟩
 ·exact .inl (h.mono st.f)
 ·refine .inr ⟨i,hi,p,e,eA,o.mono st.f ?_⟩
  have hp:p ∈ A i:=by rw [eA]; simp
  have na:∀ j ∈ M,p ∉ A j:=fun j hj z=>by
   have:j = i:=S.dis j i p z hp
   subst this
   exact dj _ hi hj
  obtain ⟨xs,q⟩:=o.there.some
  rw [q,st.kp p _ q na]
theorem Vws.nil:∀ {vs:List V} {ds:List D},Vws K F H A [] vs ds → Rps K F vs ds
 | [],[],_=>.nil
 | v :: vs,d :: ds,⟨h,r⟩=>.cons h.nil (Vws.nil r)
 | [],_ :: _,h=>h.elim
 | _ :: _,[],h=>h.elim
theorem Vws.mono (s:∀ i ∈ R,i ∈ R'):∀ {vs:List V} {ds:List D},Vws K F H A R vs ds → Vws K F H A R' vs ds
 | [],[],_=>trivial
 | v :: vs,d :: ds,⟨h,r⟩=>⟨h.mono s,Vws.mono s r⟩
 | [],_ :: _,h=>h.elim
 | _ :: _,[],h=>h.elim
theorem Vw.list {v:V} {ds:List D} (S:SR K Y F H δ σ A) (h:Vw K F H A R v (.list ds)):∃ p xs,v = .ref p ∧ H p = some (.lst xs) ∧ Rps K F xs ds:=by
 rcases h with h | ⟨i,hi,p,e,_,o⟩
 ·cases h with
  | lst h1 r=>exact ⟨_,_,rfl,S.sub _ _ h1,r⟩
 ·obtain ⟨xs,h1,r⟩:=o
  exact ⟨p,xs,e,h1,r⟩
theorem Vw.dict {v:V} {ds:List (D × D)} (S:SR K Y F H δ σ A) (h:Vw K F H A R v (.dict ds)):∃ p o kvs,v = .ref p ∧ H p = some (.frz o (.dK kvs)) ∧ RpK K F kvs ds:=by
 rcases h with h | ⟨i,hi,p,e,_,o⟩
 ·cases h with
  | dic h1 r=>exact ⟨_,_,_,rfl,S.sub _ _ h1,r⟩
 ·obtain ⟨o,xs,h1,r⟩:=o
  exact ⟨p,o,xs,e,h1,r⟩
theorem Vw.rp {v:V} {d:D} (h:Vw K F H A R v d) (hl:∀ ds,d ≠ .list ds) (hd:∀ ds,d ≠ .dict ds):Rp K F v d:=by
 rcases h with h | ⟨i,hi,p,e,_,o⟩
 ·exact h
 ·cases d with
  | list ds=>exact absurd rfl (hl ds)
  | dict ds=>exact absurd rfl (hd ds)
  | _=>exact o.elim
theorem Vw.tup {v:V} {ds:List D} (S:SR K Y F H δ σ A) (h:Vw K F H A R v (.tuple ds)):∃ p xs,v = .ref p ∧ SqT K F p xs ∧ SqT K H p xs ∧ Rps K F xs ds:=by
 cases h.rp (fun _=>by simp) (fun _=>by simp) with
 | tup h1 r=>exact ⟨_,_,rfl,h1,Same.sqt S.sub h1,r⟩
theorem Vw.int {v:V} {i:Int} (h:Vw K F H A R v (.int i)):v = .int i:=by
 cases h.rp (fun _=>by simp) (fun _=>by simp)
 rfl
theorem Vw.str {v:V} {i:Str} (h:Vw K F H A R v (.str i)):v = .str i:=by
 cases h.rp (fun _=>by simp) (fun _=>by simp)
 rfl
theorem Vw.bl {v:V} {i:Bool} (h:Vw K F H A R v (.bool i)):v = .bl i:=by
 cases h.rp (fun _=>by simp) (fun _=>by simp)
 rfl
theorem Vw.ex {v:V} {d:D} (S:SR K Y F H δ σ A) (h:Vw K F H A R v d):Rp K (ex R A F H) v d:=by
 rcases h with h | ⟨i,hi,p,e,eA,o⟩
 ·exact h.mono (Q5Y S)
 ·subst e
  have g:Z.ex R A F H p = H p:=if_pos ⟨i,hi,by rw [eA]; simp⟩
  cases d with
  | list ds=>obtain ⟨xs,h1,h2⟩:=o; exact .lst (by rw [g]; exact h1) (h2.mono (Q5Y S))
  | dict ds=>obtain ⟨o,xs,h1,h2⟩:=o; exact .dic (by rw [g]; exact h1) (h2.mono (Q5Y S))
  | _=>exact o.elim
def EV (X:Cx) (e:Expr) (f:List Sl → Option (D × List Sl)) (R M:List Nat):Prop :=
 ∃ t,PE X e t ∧ ∀ (Y:Fx) (F H:Hp) (δ:List Sl) (σ:L2.St) (A:Nat → List Addr),SR X.K Y F H δ σ A → ∀ (d:D) (δ':List Sl),f δ = some (d,δ') → ∀ Q:VK,
  (∀ v F' H',Stp A M F H F' H' → SR X.K Y F' H' δ' σ A → Vw X.K F' H' A R v d → Q v H') → t σ H Q
def TV (X:Cx) (e:Expr) (f:List Sl → Option (Bool × List Sl)) (M:List Nat):Prop :=
 ∃ t,PT X e t ∧ ∀ (Y:Fx) (F H:Hp) (δ:List Sl) (σ:L2.St) (A:Nat → List Addr),SR X.K Y F H δ σ A → ∀ (b:Bool) (δ':List Sl),f δ = some (b,δ') → ∀ Q:Bool → Hp → Prop,
  (∀ F' H',Stp A M F H F' H' → SR X.K Y F' H' δ' σ A → Q b H') → t σ H Q
def AV (X:Cx) (es:List Expr) (f:List Sl → Option (List D × List Sl)) (R M:List Nat):Prop :=
 ∃ t,PA X es t ∧ ∀ (Y:Fx) (F H:Hp) (δ:List Sl) (σ:L2.St) (A:Nat → List Addr),SR X.K Y F H δ σ A → ∀ (ds:List D) (δ':List Sl),f δ = some (ds,δ') → ∀ Q:List V → Hp → Prop,
  (∀ vs F' H',Stp A M F H F' H' → SR X.K Y F' H' δ' σ A → Vws X.K F' H' A R vs ds → Q vs H') → t σ H Q
def NV (X:Cx) (e:Expr) (f:List Sl → Option (D × List Sl)) (M:List Nat):Prop :=
 ∃ t,PE X e t ∧ ∀ (Y:Fx) (F H:Hp) (δ:List Sl) (σ:L2.St) (A:Nat → List Addr),SR X.K Y F H δ σ A → ∀ (d:D) (δ':List Sl),f δ = some (d,δ') → ∀ Q:VK,
  (∀ p F' H',Stp A M F H F' H' → SR X.K Y F' H' δ' σ A → H p = none → F' p = none → Q0n X.K F' H' p d → Q (.ref p) H') → t σ H Q
end
end Z
namespace Z
open PySem PySem.Spec PyProof.Rows L2
section
variable {X:Cx} {pos:Pos}
theorem EV.weak {e:Expr} {f} {R M R' M':List Nat} (h:EV X e f R M) (hR:∀ i ∈ R,i ∈ R') (hM:∀ i ∈ M,i ∈ M'):EV X e f R' M':=by
 obtain ⟨t,p,q⟩:=h
 exact ⟨t,p,fun Y F H δ σ A S d δ' e Q k=>q Y F H δ σ A S d δ' e Q fun v F' H' st S' r=>k v F' H' (st.mono hM) S' (r.mono hR)⟩
def Xp (d:D):List Sl → Option (D × List Sl):=fun δ=>some (d,δ)
def Xr (i:Nat):List Sl → Option (D × List Sl):=fun δ=>match δ[i]? with | some (.fz d)=>some (d,δ) | _=>none
def QkD (i:Nat):List Sl → Option (D × List Sl):=fun δ=>match δ[i]? with | some (.ow (.list ds))=>some (.list ds,δ) | some (.lk ds)=>some (.dict ds,δ) | _=>none
theorem Q3B {e:Expr} {v:V} {d:D} (h:PE X e (tC v)) (r:∀ G,Rp X.K G v d):EV X e (Xp d) [] []:=by
 refine ⟨_,h,fun Y F H δ σ A S d' δ' e Q k=>?_⟩
 cases e
 exact k _ _ _ Stp.refl S (.inl (r _))
theorem Xk {i j}:EV X (.Constant (.int i) j pos) (Xp (.int i)) [] []:=Q3B pe_int fun _=>.int _
theorem Q4g {i j}:EV X (.Constant (.bool i) j pos) (Xp (.bool i)) [] []:=Q3B pe_bl fun _=>.bl _
theorem Ya {i j}:EV X (.Constant (.str i) j pos) (Xp (.str i)) [] []:=Q3B pe_str fun _=>.str _
theorem Q2R {j}:EV X (.Constant .none j pos) (Xp .none) [] []:=Q3B pe_non fun _=>.non
theorem Qfo {i:Nat} {x:Str} (hN:X.N[i]? = some x) (hv:Vis X.env.scope x) (h1:(x == ("__debug__":Str)) = false:=by decide) (h2:(x == ("__classdict__":Str)) = false:=by decide):EV X (.Name x pos) (Xr i) [] []:=by
 refine ⟨_,pe_var hN hv h1 h2,fun Y F H δ σ A S d δ' e Q k=>?_⟩
 unfold Xr at e
 split at e
 ·rename_i d0 hd
  cases e
  obtain ⟨_,v,e2,r⟩:=S.slot i _ hd
  refine ⟨v,?_,k v F H Stp.refl S (.inl r)⟩
  cases e3:σ[i]? with
  | none=>rw [e3] at e2; cases e2
  | some o=>rw [e3] at e2; cases (show o = some v from e2); rfl
 ·cases e
theorem Wh {σ:L2.St} {i:Nat} {v:V} (h:jn σ[i]? = some v):σ[i]? = some (some v):=by
 cases e3:σ[i]? with
 | none=>rw [e3] at h; cases h
 | some o=>rw [e3] at h; cases (show o = some v from h); rfl
theorem Q5W {K:PySem.W.Frag} {F G H:Hp} {p:Addr} {d:D} (o:Q8t K F H p d) (s:Same F G) (g:G p = H p):Rp K G (.ref p) d:=by
 cases d with
 | list ds=>obtain ⟨xs,h1,h2⟩:=o; exact .lst (by rw [g]; exact h1) (h2.mono s)
 | dict ds=>obtain ⟨o,xs,h1,h2⟩:=o; exact .dic (by rw [g]; exact h1) (h2.mono s)
 | _=>exact o.elim
theorem QbJ {X:Cx} {e:Expr} {t u:TE} (h:PE X e t) (g:PE X e u):PE X e (fun σ H Q=>t σ H Q ∨ u σ H Q) :=
 ⟨fun pins s σ H Q I hw=>hw.elim (h.run pins s σ H Q I) (g.run pins s σ H Q I)⟩
theorem QiG {X:Cx} {e:Stmt} {t u:TS} (h:PS X e t) (g:PS X e u):PS X e (fun D σ H=>t D σ H ∨ u D σ H) :=
 ⟨fun pins s σ H D I hw=>hw.elim (h.run pins s σ H D I) (g.run pins s σ H D I)⟩
theorem QfW {X:Cx} {st:Stmt} {t:TS} (h:PS X st t):PS X st (fun D σ H=>∃ d u,H d = some u ∧ Mut (some u) ∧ ∀ od,t D σ (upd H d (.frz od u))):=by
 refine ⟨fun pins s σ H D I hw=>?_⟩
 obtain ⟨d,u,hd,mu,hw⟩:=hw
 obtain ⟨od,I1⟩:=I.lock hd mu
 exact h.run pins s σ _ D I1 (hw od)
theorem Qey {X:Cx} {e:Expr} {t:TE} (h:PE X e t):PE X e (fun σ H Q=>t σ H fun v H1=>∃ d u,v = .ref d ∧ H1 d = some u ∧ Mut (some u) ∧ ∀ od,Q v (upd H1 d (.frz od u))):=by
 refine ⟨fun pins s σ H Q I hw=>?_⟩
 refine thn (h.run pins s σ H _ I hw) fun w s1 ⟨v,H1,I1,r,d,u,ev,hd,mu,q⟩=>?_
 obtain ⟨od,I2⟩:=I1.lock hd mu
 exact ⟨v,_,I2,r,q od⟩
theorem Qjq {i:Nat} {x:Str} (hN:X.N[i]? = some x) (hv:Vis X.env.scope x) (h1:(x == ("__debug__":Str)) = false:=by decide) (h2:(x == ("__classdict__":Str)) = false:=by decide):EV X (.Name x pos) (QkD i) [i] []:=by
 refine ⟨_,pe_var hN hv h1 h2,fun Y F H δ σ A S d δ' e Q k=>?_⟩
 unfold QkD at e
 split at e
 ·rename_i d0 hd
  cases e
  obtain ⟨p,e2,e3,o⟩:=S.slot i _ hd
  exact ⟨_,Wh e2,k _ F H Stp.refl S (.inr ⟨i,by simp,p,rfl,e3,o⟩)⟩
 ·rename_i d0 hd
  cases e
  obtain ⟨p,e2,e3,o⟩:=S.slot i _ hd
  exact ⟨_,Wh e2,k _ F H Stp.refl S (.inr ⟨i,by simp,p,rfl,e3,o⟩)⟩
 ·cases e
def OpS (X:Cx) (r:R2) (g:D → D → Option D):Prop :=
 ∀ (Y:Fx) (F H:Hp) (δ:List Sl) (σ:L2.St) (A:Nat → List Addr) (R:List Nat) (x y:V) (d e z:D),SR X.K Y F H δ σ A → Vw X.K F H A R x d → Vw X.K F H A R y e → g d e = some z →
  ∀ Q:VK,(∀ v F' H',Stp A [] F H F' H' → SR X.K Y F' H' δ σ A → Rp X.K F' v z → Q v H') → r x y H Q
def OpN (X:Cx) (r:R2) (g:D → D → Option D):Prop :=
 ∀ (Y:Fx) (F H:Hp) (δ:List Sl) (σ:L2.St) (A:Nat → List Addr) (R:List Nat) (x y:V) (d e z:D),SR X.K Y F H δ σ A → Vw X.K F H A R x d → Vw X.K F H A R y e → g d e = some z →
  ∀ Q:VK,(∀ p F' H',Stp A [] F H F' H' → SR X.K Y F' H' δ σ A → H p = none → F' p = none → Q0n X.K F' H' p z → Q (.ref p) H') → r x y H Q
def f2 (g:D → D → Option D) (fa fb:List Sl → Option (D × List Sl)):List Sl → Option (D × List Sl):=fun δ=>(fa δ).bind fun p=>(fb p.2).bind fun q=>(g p.1 q.1).map fun z=>(z,q.2)
section
variable {a b c:Expr} {fa fb fc:List Sl → Option (D × List Sl)} {Ra Rb Rc Ma Mb Mc:List Nat} {g:D → D → Option D} {r:R2}
theorem Q6U {fa fb:List Sl → Option (D × List Sl)} {δ δ':List Sl} {z:D} (h:f2 g fa fb δ = some (z,δ')):∃ d δ1 e,fa δ = some (d,δ1) ∧ fb δ1 = some (e,δ') ∧ g d e = some z:=by
 unfold f2 at h
 cases e1:fa δ with
 | none=>rw [e1] at h; cases h
 | some p =>
  obtain ⟨d,δ1⟩:=p
  rw [e1] at h
  simp only [Q1] at h
  cases e2:fb δ1 with
  | none=>rw [e2] at h; cases h
  | some q =>
   obtain ⟨e,δ2⟩:=q
   rw [e2] at h
   simp only [Q1] at h
   cases e3:g d e with
   | none=>rw [e3] at h; cases h
   | some w =>
    rw [e3] at h
    cases h
    exact ⟨d,δ1,e,rfl,e2,e3⟩
theorem two (ha:EV X a fa Ra Ma) (hb:EV X b fb Rb Mb) (dj:∀ i ∈ Ra,i ∉ Mb:=by decide):∃ ta tb,PE X a ta ∧ PE X b tb ∧
  ∀ (Y:Fx) (F H:Hp) (δ:List Sl) (σ:L2.St) (A:Nat → List Addr),SR X.K Y F H δ σ A → ∀ (z:D) (δ':List Sl),f2 g fa fb δ = some (z,δ') → ∀ Q:V → V → Hp → Prop,
   (∀ x y d e F' H',Stp A (Ma ++ Mb) F H F' H' → SR X.K Y F' H' δ' σ A → Vw X.K F' H' A (Ra ++ Rb) x d → Vw X.K F' H' A (Ra ++ Rb) y e → g d e = some z → Q x y H') → ta σ H fun x H1=>tb σ H1 fun y H2=>Q x y H2:=by
 obtain ⟨ta,pa,qa⟩:=ha
 obtain ⟨tb,pb,qb⟩:=hb
 refine ⟨ta,tb,pa,pb,fun Y F H δ σ A S z δ' e Q k=>?_⟩
 obtain ⟨d,δ1,e',e1,e2,e3⟩:=Q6U e
 refine qa Y F H δ σ A S d δ1 e1 _ fun x F1 H1 st1 S1 r1=>?_
 refine qb Y F1 H1 δ1 σ A S1 e' δ' e2 _ fun y F2 H2 st2 S2 r2=>?_
 refine k x y d e' F2 H2 (st1.trans S1 st2) S2 ?_ (r2.mono fun i hi=>Qd _ hi) e3
 exact (r1.step S1 st2 dj).mono fun i hi=>Q9 _ hi
theorem Vj {A:Nat → List Addr} {M:List Nat} {F H F1 H1 F2 H2:Hp} {K:PySem.W.Frag} {Y:Fx} {δ:List Sl} {σ:L2.St} (S1:SR K Y F1 H1 δ σ A) (h:Stp A M F H F1 H1) (h':Stp A [] F1 H1 F2 H2):Stp A M F H F2 H2:=by
 have:=h.trans S1 h'
 rwa [J4] at this
theorem Xt {op:Operator} (ho:OpR X (binaryOp op) r) (hs:OpS X r g) (ha:EV X a fa Ra Ma) (hb:EV X b fb Rb Mb) (dj:∀ i ∈ Ra,i ∉ Mb:=by decide):EV X (.BinOp a op b pos) (f2 g fa fb) [] (Ma ++ Mb):=by
 obtain ⟨ta,tb,pa,pb,q⟩:=two (g:=g) ha hb dj
 refine ⟨_,pe_op ho pa pb,fun Y F H δ σ A S z δ' e Q k=>?_⟩
 refine q Y F H δ σ A S z δ' e _ fun x y d e F1 H1 st S1 r1 r2 hg=>?_
 refine hs Y F1 H1 δ' σ A _ x y d e z S1 r1 r2 hg Q fun v F2 H2 st2 S2 r3=>?_
 exact k v F2 H2 (Vj S1 st st2) S2 (.inl r3)
theorem Qkd {op:Operator} (ho:OpR X (binaryOp op) r) (hs:OpN X r g) (ha:EV X a fa Ra Ma) (hb:EV X b fb Rb Mb) (dj:∀ i ∈ Ra,i ∉ Mb:=by decide):NV X (.BinOp a op b pos) (f2 g fa fb) (Ma ++ Mb):=by
 obtain ⟨ta,tb,pa,pb,q⟩:=two (g:=g) ha hb dj
 refine ⟨_,pe_op ho pa pb,fun Y F H δ σ A S z δ' e Q k=>?_⟩
 refine q Y F H δ σ A S z δ' e _ fun x y d e F1 H1 st S1 r1 r2 hg=>?_
 refine hs Y F1 H1 δ' σ A _ x y d e z S1 r1 r2 hg Q fun v F2 H2 st2 S2 n f3 r3=>?_
 refine k v F2 H2 (Vj S1 st st2) S2 ?_ f3 r3
 cases e5:H v with
 | none=>rfl
 | some o =>
  by_cases c:∃ i,v ∈ A i
  ·obtain ⟨i,hi⟩:=c
   exact absurd n (S1.isSome hi)
  ·have:=st.kp v o e5 fun i _ hi=>c ⟨i,hi⟩
   rw [n] at this
   cases this
theorem Q2A {op:CmpOp} (ho:OpR X (compareOp op) r) (hs:OpS X r g) (ha:EV X a fa Ra Ma) (hb:EV X b fb Rb Mb) (dj:∀ i ∈ Ra,i ∉ Mb:=by decide) (hm:behindInMarks op b = false:=by rfl):EV X (.Compare a [op] [b] pos) (f2 g fa fb) [] (Ma ++ Mb):=by
 obtain ⟨ta,tb,pa,pb,q⟩:=two (g:=g) ha hb dj
 refine ⟨_,pe_cmpR ho pa pb hm,fun Y F H δ σ A S z δ' e Q k=>?_⟩
 refine q Y F H δ σ A S z δ' e _ fun x y d e F1 H1 st S1 r1 r2 hg=>?_
 refine hs Y F1 H1 δ' σ A _ x y d e z S1 r1 r2 hg Q fun v F2 H2 st2 S2 r3=>?_
 exact k v F2 H2 (Vj S1 st st2) S2 (.inl r3)
def toB (o:Option (D × List Sl)):Option (Bool × List Sl):=o.bind fun p=>match p.1 with | .bool b=>some (b,p.2) | _=>none
theorem Q3M {o:Option (D × List Sl)} {b:Bool} {δ:List Sl} (h:toB o = some (b,δ)):o = some (.bool b,δ):=by
 unfold toB at h
 cases o with
 | none=>cases h
 | some p =>
  obtain ⟨d,δ1⟩:=p
  cases d <;> simp at h
  obtain ⟨rfl,rfl⟩:=h
  rfl
theorem Q5l {K:PySem.W.Frag} {G:Hp} {v:V} {b:Bool} (h:Rp K G v (.bool b)):v = .bl b:=by
 cases h
 rfl
theorem Yx {op:CmpOp} (ho:OpR X (compareOp op) r) (hs:OpS X r g) (ha:EV X a fa Ra Ma) (hb:EV X b fb Rb Mb) (dj:∀ i ∈ Ra,i ∉ Mb:=by decide) (hm:behindInMarks op b = false:=by rfl):TV X (.Compare a [op] [b] pos) (fun δ=>toB (f2 g fa fb δ)) (Ma ++ Mb):=by
 obtain ⟨ta,tb,pa,pb,q⟩:=two (g:=g) ha hb dj
 refine ⟨_,pt_cmpR ho pa pb hm,fun Y F H δ σ A S z δ' e Q k=>?_⟩
 refine q Y F H δ σ A S _ δ' (Q3M e) _ fun x y d e F1 H1 st S1 r1 r2 hg=>?_
 refine hs Y F1 H1 δ' σ A _ x y d e _ S1 r1 r2 hg _ fun v F2 H2 st2 S2 r3=>?_
 exact ⟨z,Q5l r3,k F2 H2 (Vj S1 st st2) S2⟩
theorem Zk (h:EV X a fa Ra Ma) (he:∀ whole,isTrue a X.env whole = (do let v ← whole; standAt a.pos; holding [v] (truthy v)):=by intro _; rfl):TV X a (fun δ=>toB (fa δ)) Ma:=by
 obtain ⟨t,p,q⟩:=h
 refine ⟨_,pt_val p he,fun Y F H δ σ A S z δ' e Q k=>?_⟩
 refine q Y F H δ σ A S _ δ' (Q3M e) _ fun v F1 H1 st S1 r1=>?_
 exact ⟨z,r1.bl,k F1 H1 st S1⟩
def Q0u (g g':D → D → Option D) (fa fb fc:List Sl → Option (D × List Sl)):List Sl → Option (D × List Sl):=fun δ=>(fa δ).bind fun p=>(fb p.2).bind fun q=>(g p.1 q.1).bind fun z=>match z with
 | .bool true=>(fc q.2).bind fun u=>(g' q.1 u.1).map fun z'=>(z',u.2)
 | .bool false=>some (.bool false,q.2)
 | _=>none
theorem Qaa {op op':CmpOp} {r r':R2} {g g':D → D → Option D} (ho:OpR X (compareOp op) r) (hs:OpS X r g) (ho':OpR X (compareOp op') r') (hs':OpS X r' g') (ha:EV X a fa Ra Ma) (hb:EV X b fb Rb Mb) (hc:EV X c fc Rc Mc)
  (dj:∀ i ∈ Ra,i ∉ Mb:=by decide) (dj2:∀ i ∈ Rb,i ∉ Mc:=by decide) (hm:lastMarks [op,op'] [b,c] = false:=by rfl):EV X (.Compare a [op,op'] [b,c] pos) (Q0u g g' fa fb fc) [] (Ma ++ Mb ++ Mc):=by
 obtain ⟨ta,pa,qa⟩:=ha
 obtain ⟨tb,pb,qb⟩:=hb
 obtain ⟨tc,pc,qc⟩:=hc
 refine ⟨_,pe_chain ho ho' pa pb pc hm,fun Y F H δ σ A S z δ' e Q k=>?_⟩
 unfold Q0u at e
 cases e1:fa δ with
 | none=>rw [e1] at e; cases e
 | some p =>
  obtain ⟨d,δ1⟩:=p
  rw [e1] at e
  simp only [Q1] at e
  cases e2:fb δ1 with
  | none=>rw [e2] at e; cases e
  | some p =>
   obtain ⟨d2,δ2⟩:=p
   rw [e2] at e
   simp only [Q1] at e
   cases e3:g d d2 with
   | none=>rw [e3] at e; cases e
   | some w =>
    rw [e3] at e
    simp only [Q1] at e
    refine qa Y F H δ σ A S d δ1 e1 _ fun x F1 H1 st1 S1 r1=>?_
    refine qb Y F1 H1 δ1 σ A S1 d2 δ2 e2 _ fun y F2 H2 st2 S2 r2=>?_
    have r1':Vw X.K F2 H2 A (Ra ++ Rb) x d:=(r1.step S1 st2 dj).mono fun i hi=>Q9 _ hi
    have r2':Vw X.K F2 H2 A (Ra ++ Rb) y d2:=r2.mono fun i hi=>Qd _ hi
    refine hs Y F2 H2 δ2 σ A _ x y d d2 w S2 r1' r2' e3 _ fun v F3 H3 st3 S3 r3=>?_
    have st:Stp A (Ma ++ Mb) F H F3 H3:=Vj S2 (st1.trans S1 st2) st3
    cases w with
    | bool k' =>
     refine ⟨k',Q5l r3,?_⟩
     cases k' with
     | false =>
      cases e
      rw [if_neg X0]
      exact k _ F3 H3 (st.mono fun i hi=>Q9 _ hi) S3 (.inl (.bl _))
     | true =>
      rw [if_pos rfl]
      simp only at e
      cases e4:fc δ2 with
      | none=>rw [e4] at e; cases e
      | some p =>
       obtain ⟨d3,δ3⟩:=p
       rw [e4] at e
       simp only [Q1] at e
       cases e5:g' d2 d3 with
       | none=>rw [e5] at e; cases e
       | some w' =>
        rw [e5] at e
        cases e
        refine qc Y F3 H3 δ2 σ A S3 d3 _ e4 _ fun w1 F4 H4 st4 S4 r4=>?_
        have r2'':Vw X.K F4 H4 A (Rb ++ Rc) y d2:=((r2.step S2 st3 (by simp)).step S3 st4 dj2).mono fun i hi=>Q9 _ hi
        have r4':Vw X.K F4 H4 A (Rb ++ Rc) w1 d3:=r4.mono fun i hi=>Qd _ hi
        refine hs' Y F4 H4 δ' σ A _ y w1 d2 d3 _ S4 r2'' r4' e5 Q fun v F5 H5 st5 S5 r5=>?_
        exact k v F5 H5 (Vj S4 (st.trans S3 st4) st5) S5 (.inl r5)
    | _=>cases e
theorem Q7B {op op':CmpOp} {r r':R2} {g g':D → D → Option D} (ho:OpR X (compareOp op) r) (hs:OpS X r g) (ho':OpR X (compareOp op') r') (hs':OpS X r' g') (ha:EV X a fa Ra Ma) (hb:EV X b fb Rb Mb) (hc:EV X c fc Rc Mc)
  (dj:∀ i ∈ Ra,i ∉ Mb:=by decide) (dj2:∀ i ∈ Rb,i ∉ Mc:=by decide) (hm:lastMarks [op,op'] [b,c] = false:=by rfl):TV X (.Compare a [op,op'] [b,c] pos) (fun δ=>toB (Q0u g g' fa fb fc δ)) (Ma ++ Mb ++ Mc):=by
 obtain ⟨ta,pa,qa⟩:=ha
 obtain ⟨tb,pb,qb⟩:=hb
 obtain ⟨tc,pc,qc⟩:=hc
 refine ⟨_,pt_chain ho ho' pa pb pc hm,fun Y F H δ σ A S z δ' e Q k=>?_⟩
 have e:=Q3M e
 unfold Q0u at e
 cases e1:fa δ with
 | none=>rw [e1] at e; cases e
 | some p =>
  obtain ⟨d,δ1⟩:=p
  rw [e1] at e
  simp only [Q1] at e
  cases e2:fb δ1 with
  | none=>rw [e2] at e; cases e
  | some p =>
   obtain ⟨d2,δ2⟩:=p
   rw [e2] at e
   simp only [Q1] at e
   cases e3:g d d2 with
   | none=>rw [e3] at e; cases e
   | some w =>
    rw [e3] at e
    simp only [Q1] at e
    refine qa Y F H δ σ A S d δ1 e1 _ fun x F1 H1 st1 S1 r1=>?_
    refine qb Y F1 H1 δ1 σ A S1 d2 δ2 e2 _ fun y F2 H2 st2 S2 r2=>?_
    have r1':Vw X.K F2 H2 A (Ra ++ Rb) x d:=(r1.step S1 st2 dj).mono fun i hi=>Q9 _ hi
    have r2':Vw X.K F2 H2 A (Ra ++ Rb) y d2:=r2.mono fun i hi=>Qd _ hi
    refine hs Y F2 H2 δ2 σ A _ x y d d2 w S2 r1' r2' e3 _ fun v F3 H3 st3 S3 r3=>?_
    have st:Stp A (Ma ++ Mb) F H F3 H3:=Vj S2 (st1.trans S1 st2) st3
    cases w with
    | bool k' =>
     refine ⟨k',Q5l r3,?_⟩
     cases k' with
     | false =>
      cases e
      rw [if_neg X0]
      exact ⟨false,rfl,k F3 H3 (st.mono fun i hi=>Q9 _ hi) S3⟩
     | true =>
      rw [if_pos rfl]
      simp only at e
      cases e4:fc δ2 with
      | none=>rw [e4] at e; cases e
      | some p =>
       obtain ⟨d3,δ3⟩:=p
       rw [e4] at e
       simp only [Q1] at e
       cases e5:g' d2 d3 with
       | none=>rw [e5] at e; cases e
       | some w' =>
        rw [e5] at e
        cases e
        refine qc Y F3 H3 δ2 σ A S3 d3 _ e4 _ fun w1 F4 H4 st4 S4 r4=>?_
        have r2'':Vw X.K F4 H4 A (Rb ++ Rc) y d2:=((r2.step S2 st3 (by simp)).step S3 st4 dj2).mono fun i hi=>Q9 _ hi
        have r4':Vw X.K F4 H4 A (Rb ++ Rc) w1 d3:=r4.mono fun i hi=>Qd _ hi
        refine hs' Y F4 H4 δ' σ A _ y w1 d2 d3 _ S4 r2'' r4' e5 _ fun v F5 H5 st5 S5 r5=>?_
        exact ⟨z,Q5l r5,k F5 H5 (Vj S4 (st.trans S3 st4) st5) S5⟩
    | _=>cases e
variable {ga gb:List Sl → Option (Bool × List Sl)} {rest:List Expr}
def Q7Z (ga gb:List Sl → Option (Bool × List Sl)):List Sl → Option (Bool × List Sl):=fun δ=>(ga δ).bind fun p=>match p.1 with | true=>gb p.2 | false=>some (false,p.2)
def gOr (ga gb:List Sl → Option (Bool × List Sl)):List Sl → Option (Bool × List Sl):=fun δ=>(ga δ).bind fun p=>match p.1 with | true=>some (true,p.2) | false=>gb p.2
def Q1G (ga:List Sl → Option (Bool × List Sl)):List Sl → Option (Bool × List Sl):=fun δ=>(ga δ).map fun p=>(!p.1,p.2)
def WV (X:Cx) (e:Expr) (f:List Sl → Option (Bool × List Sl)) (M:List Nat):Prop :=
 ∃ t,PW X e t ∧ ∀ (Y:Fx) (F H:Hp) (δ:List Sl) (σ:L2.St) (A:Nat → List Addr),SR X.K Y F H δ σ A → ∀ (b:Bool) (δ':List Sl),f δ = some (b,δ') → ∀ Q:Bool → Hp → Prop,
  (∀ F' H',Stp A M F H F' H' → SR X.K Y F' H' δ' σ A → Q b H') → t σ H Q
theorem WV.tv {e:Expr} {f M} (h:WV X e f M):TV X e f M:=by
 obtain ⟨t,p,q⟩:=h
 exact ⟨t,p.pt,q⟩
theorem Q6M (ha:TV X a ga Ma):WV X (.BoolOp .And [a] pos) ga Ma:=by
 obtain ⟨t,p,q⟩:=ha
 exact ⟨t,pw_and1 p,q⟩
theorem Q2L (ha:TV X a ga Ma):WV X (.BoolOp .Or [a] pos) ga Ma:=by
 obtain ⟨t,p,q⟩:=ha
 exact ⟨t,pw_or1 p,q⟩
theorem Q76 (ha:TV X a ga Ma) (hb:WV X (.BoolOp .And (b :: rest) pos) gb Mb):WV X (.BoolOp .And (a :: b :: rest) pos) (Q7Z ga gb) (Ma ++ Mb):=by
 obtain ⟨ta,pa,qa⟩:=ha
 obtain ⟨tb,pb,qb⟩:=hb
 refine ⟨_,pw_and pa pb,fun Y F H δ σ A S z δ' e Q k=>?_⟩
 unfold Q7Z at e
 cases e1:ga δ with
 | none=>rw [e1] at e; cases e
 | some p =>
  obtain ⟨b1,δ1⟩:=p
  rw [e1] at e
  refine qa Y F H δ σ A S b1 δ1 e1 _ fun F1 H1 st1 S1=>?_
  cases b1 with
  | true=>exact iteT (qb Y F1 H1 δ1 σ A S1 z δ' e Q fun F2 H2 st2 S2=>k F2 H2 (st1.trans S1 st2) S2)
  | false =>
   cases e
   exact iteF (k F1 H1 (st1.mono fun i hi=>Q9 _ hi) S1)
theorem Q2s (ha:TV X a ga Ma) (hb:WV X (.BoolOp .Or (b :: rest) pos) gb Mb):WV X (.BoolOp .Or (a :: b :: rest) pos) (gOr ga gb) (Ma ++ Mb):=by
 obtain ⟨ta,pa,qa⟩:=ha
 obtain ⟨tb,pb,qb⟩:=hb
 refine ⟨_,pw_or pa pb,fun Y F H δ σ A S z δ' e Q k=>?_⟩
 unfold gOr at e
 cases e1:ga δ with
 | none=>rw [e1] at e; cases e
 | some p =>
  obtain ⟨b1,δ1⟩:=p
  rw [e1] at e
  refine qa Y F H δ σ A S b1 δ1 e1 _ fun F1 H1 st1 S1=>?_
  cases b1 with
  | false=>exact iteF (qb Y F1 H1 δ1 σ A S1 z δ' e Q fun F2 H2 st2 S2=>k F2 H2 (st1.trans S1 st2) S2)
  | true =>
   cases e
   exact iteT (k F1 H1 (st1.mono fun i hi=>Q9 _ hi) S1)
theorem Zn (ha:TV X a ga Ma):TV X (.UnaryOp .Not a pos) (Q1G ga) Ma:=by
 obtain ⟨t,p,q⟩:=ha
 refine ⟨_,pt_not p,fun Y F H δ σ A S z δ' e Q k=>?_⟩
 unfold Q1G at e
 cases e1:ga δ with
 | none=>rw [e1] at e; cases e
 | some p =>
  obtain ⟨b1,δ1⟩:=p
  rw [e1] at e
  cases e
  exact q Y F H δ σ A S b1 δ1 e1 _ fun F1 H1 st1 S1=>k F1 H1 st1 S1
def Q7D (fa fb:List Sl → Option (D × List Sl)):List Sl → Option (D × List Sl):=fun δ=>(toB (fa δ)).bind fun p=>match p.1 with | true=>fb p.2 | false=>some (.bool false,p.2)
def Qef (fa:List Sl → Option (D × List Sl)):List Sl → Option (D × List Sl):=fun δ=>(toB (fa δ)).map fun p=>(.bool (!p.1),p.2)
theorem Q6N (ha:EV X a fa Ra Ma):EV X (.BoolOp .And [a] pos) fa Ra Ma:=by
 obtain ⟨t,p,q⟩:=ha
 exact ⟨t,pe_one p,q⟩
theorem Q7a (ha:EV X a fa Ra Ma) (hb:EV X (.BoolOp .And (b :: rest) pos) fb Rb Mb):EV X (.BoolOp .And (a :: b :: rest) pos) (Q7D fa fb) Rb (Ma ++ Mb):=by
 obtain ⟨ta,pa,qa⟩:=ha
 obtain ⟨tb,pb,qb⟩:=hb
 refine ⟨_,pe_and pa pb,fun Y F H δ σ A S z δ' e Q k=>?_⟩
 unfold Q7D at e
 cases e1:toB (fa δ) with
 | none=>rw [e1] at e; cases e
 | some p =>
  obtain ⟨b1,δ1⟩:=p
  rw [e1] at e
  refine qa Y F H δ σ A S _ δ1 (Q3M e1) _ fun v F1 H1 st1 S1 r1=>?_
  refine ⟨b1,r1.bl,?_⟩
  cases b1 with
  | true=>exact iteT (qb Y F1 H1 δ1 σ A S1 z δ' e Q fun v F2 H2 st2 S2 r2=>k v F2 H2 (st1.trans S1 st2) S2 r2)
  | false =>
   cases e
   exact iteF (k _ F1 H1 (st1.mono fun i hi=>Q9 _ hi) S1 (.inl (.bl _)))
theorem QfJ (ha:EV X a fa Ra Ma):EV X (.UnaryOp .Not a pos) (Qef fa) [] Ma:=by
 obtain ⟨t,p,q⟩:=ha
 refine ⟨_,pe_not p,fun Y F H δ σ A S z δ' e Q k=>?_⟩
 unfold Qef at e
 cases e1:toB (fa δ) with
 | none=>rw [e1] at e; cases e
 | some p =>
  obtain ⟨b1,δ1⟩:=p
  rw [e1] at e
  cases e
  exact q Y F H δ σ A S _ δ1 (Q3M e1) _ fun v F1 H1 st1 S1 r1=>⟨b1,r1.bl,k _ F1 H1 st1 S1 (.inl (.bl _))⟩
def Q2n (gc:List Sl → Option (Bool × List Sl)) (fa fb:List Sl → Option (D × List Sl)):List Sl → Option (D × List Sl):=fun δ=>(gc δ).bind fun p=>match p.1 with | true=>fa p.2 | false=>fb p.2
theorem Q62 {gc} (hc:TV X c gc Mc) (ha:EV X a fa Ra Ma) (hb:EV X b fb Rb Mb):EV X (.IfExp c a b pos) (Q2n gc fa fb) (Ra ++ Rb) (Mc ++ (Ma ++ Mb)):=by
 obtain ⟨tc,pc,qc⟩:=hc
 obtain ⟨ta,pa,qa⟩:=ha
 obtain ⟨tb,pb,qb⟩:=hb
 refine ⟨_,pe_ifExp pc pa pb,fun Y F H δ σ A S z δ' e Q k=>?_⟩
 unfold Q2n at e
 cases e1:gc δ with
 | none=>rw [e1] at e; cases e
 | some p =>
  obtain ⟨b1,δ1⟩:=p
  rw [e1] at e
  refine qc Y F H δ σ A S _ δ1 e1 _ fun F1 H1 st1 S1=>?_
  cases b1 with
  | true=>exact iteT (qa Y F1 H1 δ1 σ A S1 z δ' e Q fun v F2 H2 st2 S2 r2=>k v F2 H2 ((st1.trans S1 st2).mono fun i hi=>by
    rcases Qc.mp hi with h | h
    ·exact Q9 _ h
    ·exact Qd _ (Q9 _ h)) S2 (r2.mono fun i hi=>Q9 _ hi))
  | false=>exact iteF (qb Y F1 H1 δ1 σ A S1 z δ' e Q fun v F2 H2 st2 S2 r2=>k v F2 H2 ((st1.trans S1 st2).mono fun i hi=>by
    rcases Qc.mp hi with h | h
    ·exact Q9 _ h
    ·exact Qd _ (Qd _ h)) S2 (r2.mono fun i hi=>Qd _ hi))
theorem QiL {gc} (hc:TV X c gc Mc) (ha:NV X a fa Ma) (hb:NV X b fb Mb):NV X (.IfExp c a b pos) (Q2n gc fa fb) (Mc ++ (Ma ++ Mb)):=by
 obtain ⟨tc,pc,qc⟩:=hc
 obtain ⟨ta,pa,qa⟩:=ha
 obtain ⟨tb,pb,qb⟩:=hb
 refine ⟨_,pe_ifExp pc pa pb,fun Y F H δ σ A S z δ' e Q k=>?_⟩
 unfold Q2n at e
 have Q6F:∀ {F1 H1 δ1 p},Stp A Mc F H F1 H1 → SR X.K Y F1 H1 δ1 σ A → H1 p = none → H p = none:=fun {F1 H1 δ1 p} st S1 n=>by
  cases e5:H p with
  | none=>rfl
  | some o =>
   by_cases c:∃ i,p ∈ A i
   ·obtain ⟨i,hi⟩:=c
    exact absurd n (S1.isSome hi)
   ·have:=st.kp p o e5 fun i _ hi=>c ⟨i,hi⟩
    rw [n] at this
    cases this
 cases e1:gc δ with
 | none=>rw [e1] at e; cases e
 | some p =>
  obtain ⟨b1,δ1⟩:=p
  rw [e1] at e
  refine qc Y F H δ σ A S _ δ1 e1 _ fun F1 H1 st1 S1=>?_
  cases b1 with
  | true=>exact iteT (qa Y F1 H1 δ1 σ A S1 z δ' e Q fun v F2 H2 st2 S2 n f r2=>k v F2 H2 ((st1.trans S1 st2).mono fun i hi=>by
    rcases Qc.mp hi with h | h
    ·exact Q9 _ h
    ·exact Qd _ (Q9 _ h)) S2 (Q6F st1 S1 n) f r2)
  | false=>exact iteF (qb Y F1 H1 δ1 σ A S1 z δ' e Q fun v F2 H2 st2 S2 n f r2=>k v F2 H2 ((st1.trans S1 st2).mono fun i hi=>by
    rcases Qc.mp hi with h | h
    ·exact Q9 _ h
    ·exact Qd _ (Qd _ h)) S2 (Q6F st1 S1 n) f r2)
theorem SR.give {K:PySem.W.Frag} {Y:Fx} {F F1 H H1:Hp} {δ δ':List Sl} {σ:L2.St} {A:Nat → List Addr} {M:List Nat} {p:Addr} {u:HO} (S:SR K Y F H δ σ A) (S1:SR K Y F1 H1 δ' σ A) (st1:Stp A M F H F1 H1) (n:H p = none) (f:F1 p = none) (hu:H1 p = some u) :
  Stp A M F H (upd F1 p u) H1 ∧ SR K Y (upd F1 p u) H1 δ' σ A ∧ Same F1 (upd F1 p u):=by
 have nA:∀ i,p ∉ A i:=fun i hi=>S.isSome hi n
 have sF:Same F1 (upd F1 p u):=fun b x e=>by rw [upd_ne (ne_of_none e f)]; exact e
 refine ⟨⟨st1.f.trans sF,fun a e1 e2=>?_,st1.kp⟩,⟨S1.len,fun i s e=>(S1.slot i s e).mono sF fun _ _=>rfl,S1.out,S1.dis,fun i a h=>?_,S1.new,fun b x e=>?_,S1.fix,S1.ioA,S1.kp,fun a e1 e2=>?_,S1.f0.trans sF,S1.lio,S1.ob,S1.vno⟩,sF⟩
 ·by_cases c:a = p
  ·subst c; exact n
  ·rw [upd_ne c] at e2; exact st1.nw a e1 e2
 ·rw [upd_ne (fun c=>by subst c; exact nA i h)]; exact S1.hid i a h
 ·by_cases c:b = p
  ·subst c; rw [upd_same] at e; cases e; exact hu
  ·rw [upd_ne c] at e; exact S1.sub _ _ e
 ·by_cases c:a = p
  ·subst c
   cases e3:Y.H0 a with
   | none=>rfl
   | some x =>
    by_cases c2:∃ i,Y.lt i = true ∧ a ∈ Y.A0 i
    ·obtain ⟨i,hi,hA⟩:=c2
     rw [← (S.fix i hi).2] at hA
     exact absurd hA (nA i)
    ·have:=S.kp a x e3 fun i hi z=>c2 ⟨i,hi,z⟩
     rw [n] at this
     cases this
  ·rw [upd_ne c] at e2; exact S1.nw a e1 e2
theorem SR.fresh1 {K:PySem.W.Frag} {Y:Fx} {F H:Hp} {δ:List Sl} {σ:L2.St} {A:Nat → List Addr} (S:SR K Y F H δ σ A) {p:Addr} (n:H p = none):Y.H0 p = none:=by
 cases e3:Y.H0 p with
 | none=>rfl
 | some x =>
  by_cases c2:∃ i,Y.lt i = true ∧ p ∈ Y.A0 i
  ·obtain ⟨i,hi,hA⟩:=c2
   rw [← (S.fix i hi).2] at hA
   exact absurd n (S.isSome hA)
  ·have:=S.kp p x e3 fun i hi z=>c2 ⟨i,hi,z⟩
   rw [n] at this
   cases this
theorem Qf3 {K:PySem.W.Frag} {Y:Fx} {F F1 H H1:Hp} {δ δ':List Sl} {σ:L2.St} {A:Nat → List Addr} {M:List Nat} {p:Addr} {ds:List (D × D)} (S:SR K Y F H δ σ A) (S1:SR K Y F1 H1 δ' σ A) (st1:Stp A M F H F1 H1) (n:H p = none) (f:F1 p = none) (o:Q0n K F1 H1 p (.dict ds)) :
  ∃ u,H1 p = some u ∧ Mut (some u) ∧ ∀ od,Stp A M F H F1 (upd H1 p (.frz od u)) ∧ SR K Y F1 (upd H1 p (.frz od u)) δ' σ A ∧ Q8t K F1 (upd H1 p (.frz od u)) p (.dict ds):=by
 obtain ⟨kvs,h1,h2⟩:=o
 have nA:∀ i,p ∉ A i:=fun i hi=>S.isSome hi n
 refine ⟨_,h1,trivial,fun od=>⟨⟨st1.f,st1.nw,fun a x e hx=>?_⟩,S1.upd_free f nA (S.fresh1 n),od,kvs,upd_same,h2⟩⟩
 rw [upd_ne (ne_of_none e n)]
 exact st1.kp a x e hx
theorem NV.ev (h:NV X a fa Ma):EV X a fa [] Ma:=by
 obtain ⟨t,p,q⟩:=h
 refine ⟨_,QbJ p (Qey p),fun Y F H δ σ A S z δ' e Q k=>?_⟩
 cases z with
 | dict ds =>
  refine .inr (q Y F H δ σ A S _ δ' e _ fun p F1 H1 st1 S1 n f o=>?_)
  obtain ⟨u,hu,mu,w⟩:=Qf3 S S1 st1 n f o
  refine ⟨p,u,rfl,hu,mu,fun od=>?_⟩
  obtain ⟨st2,S2,o2⟩:=w od
  obtain ⟨st3,S3,sF⟩:=SR.give S S2 st2 n f upd_same
  exact k _ _ _ st3 S3 (.inl (Q5W o2 sF (by rw [upd_same,upd_same])))
 | list ds =>
  refine .inl (q Y F H δ σ A S _ δ' e _ fun p F1 H1 st1 S1 n f o=>?_)
  obtain ⟨xs,hu,o2⟩:=id o
  obtain ⟨st3,S3,sF⟩:=SR.give S S1 st1 n f hu
  exact k _ _ _ st3 S3 (.inl (Q5W (d:=.list ds) ⟨xs,hu,o2⟩ sF (by rw [upd_same,hu])))
 | _=>exact .inl (q Y F H δ σ A S _ δ' e _ fun p F1 H1 st1 S1 n f o=>o.elim)
end
def Yg:List Sl → Option (List D × List Sl):=fun δ=>some ([],δ)
def Xq (fa:List Sl → Option (D × List Sl)) (fr:List Sl → Option (List D × List Sl)):List Sl → Option (List D × List Sl):=fun δ=>(fa δ).bind fun p=>(fr p.2).map fun q=>(p.1 :: q.1,q.2)
theorem Xx:AV X [] Yg [] []:=by
 refine ⟨_,pa_nil,fun Y F H δ σ A S d' δ' e Q k=>?_⟩
 cases e
 exact k _ _ _ Stp.refl S trivial
theorem Q4F {fa fr} {δ δ':List Sl} {ds:List D} (h:Xq fa fr δ = some (ds,δ')):∃ d δ1 r,fa δ = some (d,δ1) ∧ fr δ1 = some (r,δ') ∧ ds = d :: r:=by
 unfold Xq at h
 cases e1:fa δ with
 | none=>rw [e1] at h; cases h
 | some p =>
  obtain ⟨d,δ1⟩:=p
  rw [e1] at h
  simp only [Q1] at h
  cases e2:fr δ1 with
  | none=>rw [e2] at h; cases h
  | some q =>
   obtain ⟨e,δ2⟩:=q
   rw [e2] at h
   cases h
   exact ⟨d,δ1,e,rfl,e2,rfl⟩
theorem Xj {a:Expr} {es:List Expr} {fa fr} {Ra Rr Ma Mr:List Nat} (ha:EV X a fa Ra Ma) (hr:AV X es fr Rr Mr) (dj:∀ i ∈ Ra,i ∉ Mr:=by decide) (hs:starEach (a :: es) X.env = (false,eval a X.env) :: starEach es X.env:=by rfl):AV X (a :: es) (Xq fa fr) (Ra ++ Rr) (Ma ++ Mr):=by
 obtain ⟨ta,pa,qa⟩:=ha
 obtain ⟨tb,pb,qb⟩:=hr
 refine ⟨_,pa_cons pa pb hs,fun Y F H δ σ A S ds δ' e Q k=>?_⟩
 obtain ⟨d,δ1,r,e1,e2,rfl⟩:=Q4F e
 refine qa Y F H δ σ A S d δ1 e1 _ fun x F1 H1 st1 S1 r1=>?_
 refine qb Y F1 H1 δ1 σ A S1 r δ' e2 _ fun y F2 H2 st2 S2 r2=>?_
 exact k _ F2 H2 (st1.trans S1 st2) S2 ⟨(r1.step S1 st2 dj).mono fun i hi=>Q9 _ hi,r2.mono fun i hi=>Qd _ hi⟩
def Q0p (f:List Sl → Option (List D × List Sl)):List Sl → Option (D × List Sl):=fun δ=>(f δ).bind fun p=>if p.1.length ≤ sizeLine then some (.tuple p.1,p.2) else none
def We (f:List Sl → Option (List D × List Sl)):List Sl → Option (D × List Sl):=fun δ=>(f δ).bind fun p=>if p.1.length ≤ sizeLine then some (.list p.1,p.2) else none
theorem Wu {es:List Expr} {f} {M:List Nat} {x1} (h:AV X es f [] M):EV X (.Tuple es x1 pos) (Q0p f) [] M:=by
 obtain ⟨t,p,q⟩:=h
 refine ⟨_,pe_tup p,fun Y F H δ σ A S d δ' e Q k=>?_⟩
 unfold Q0p at e
 cases e1:f δ with
 | none=>rw [e1] at e; cases e
 | some p =>
  obtain ⟨ds,δ1⟩:=p
  rw [e1] at e
  simp only [Q1] at e
  split at e
  ·rename_i hz
   cases e
   refine q Y F H δ σ A S ds δ' e1 _ fun vs F1 H1 st S1 r=>?_
   have r:=r.nil
   refine ⟨by rw [r.length]; exact hz,fun p hp=>?_⟩
   exact k _ (upd F1 p (.tup vs)) (upd H1 p (.tup vs)) (Vj S1 st (Stp.laid S1 hp)) (S1.laid hp) (.inl (.tup (.inl (.inl upd_same)) (r.mono (Stp.laid (M:=[]) S1 hp).f)))
  ·cases e
theorem Ve {es:List Expr} {f} {M:List Nat} (h:AV X es f [] M):NV X (.List es pos) (We f) M:=by
 obtain ⟨t,p,q⟩:=h
 refine ⟨_,pe_lst p,fun Y F H δ σ A S d δ' e Q k=>?_⟩
 unfold We at e
 cases e1:f δ with
 | none=>rw [e1] at e; cases e
 | some p =>
  obtain ⟨ds,δ1⟩:=p
  rw [e1] at e
  simp only [Q1] at e
  split at e
  ·rename_i hz
   cases e
   refine q Y F H δ σ A S ds δ' e1 _ fun vs F1 H1 st S1 r=>?_
   have r:=r.nil
   refine ⟨by rw [r.length]; exact hz,fun p hp=>?_⟩
   refine k p F1 (upd H1 p (.lst vs)) (Vj S1 st (Stp.laidO hp)) (S1.laidO hp) ?_ (S1.sub.free hp) ⟨vs,upd_same,r⟩
   cases e5:H p with
   | none=>rfl
   | some o =>
    by_cases c:∃ i,p ∈ A i
    ·obtain ⟨i,hi⟩:=c
     exact absurd hp (S1.isSome hi)
    ·have:=st.kp p o e5 fun i _ hi=>c ⟨i,hi⟩
     rw [hp] at this
     cases this
  ·cases e
end
end Z
namespace Z
open PySem PySem.Spec PyProof.Rows L2
section
variable {X:Cx} {pins:List (Addr × Obj)} {σ:L2.St} {H G:Hp} {s:Shared}
theorem Q7F {h:Heap} {k:Key} {u:Value} (e:keyIs k u = true):Reads h u (Q7m k) []:=by
 rcases keyIs_shape e with ⟨i,t,rfl,rfl⟩ | ⟨x,t,rfl,rfl⟩
 ·exact .int i t
 ·exact .str x t
mutual
theorem Rp.reads (I:Inv X pins σ H s) (g:Same G H):∀ (d:D) (v:V) (u:Value),Rp X.K G v d → RelV v u → ∃ as,Reads s.heap u d as
 | .none,_,_,h,r=>by
  cases h
  cases r
  exact ⟨_,Reads.none⟩
 | .bool b,_,_,h,r=>by
  cases h
  cases r
  exact ⟨_,Reads.bool b⟩
 | .int i,_,_,h,r=>by
  cases h
  obtain ⟨t,rfl⟩:=r
  exact ⟨_,Reads.int i t⟩
 | .str x,_,_,h,r=>by
  cases h
  obtain ⟨t,rfl⟩:=r
  exact ⟨_,Reads.str x t⟩
 | .list ds,_,_,h,r=>by
  cases h with
  | lst hs ha =>
   rename_i p xs
   cases r
   obtain ⟨its,rv,⟨o,n,ho,hc,_,hd⟩,_⟩:=I.list (SqL.of (g _ _ hs))
   obtain ⟨as,hr⟩:=Rp.readsAll I g ds _ its ha rv
   exact ⟨_,Reads.list ho hc hd hr⟩
 | .tuple ds,_,_,h,r=>by
  cases h with
  | tup hs ha =>
   cases r
   obtain ⟨its,rv,⟨o,ho,hc,n,hd⟩,_⟩:=I.tuple (Same.sqt g hs)
   obtain ⟨as,hr⟩:=Rp.readsAll I g ds _ its ha rv
   exact ⟨_,Reads.tuple ho hc hd hr⟩
 | .dict ds,_,_,h,r=>by
  cases h with
  | dic hs ha =>
   cases r
   obtain ⟨_,_,hsm,vs,rel,o,es,ep,ho,hx,hdat,_,hp,_⟩:=I.hok _ _ (g _ _ hs)
   obtain ⟨bs,h1,h2⟩:=Rp.readsKv I g ds _ vs es.toList ha rel hp
   exact ⟨_,Reads.dict ho hx.1 hdat h1 h2⟩
theorem Rp.readsAll (I:Inv X pins σ H s) (g:Same G H):∀ (ds:List D) (vs:List V) (us:List Value),Rps X.K G vs ds → Vals vs us → ∃ as,ReadsAll s.heap us ds as
 | [],_,_,h,r=>by
  cases h
  cases r
  exact ⟨_,ReadsAll.nil⟩
 | d :: ds,_,_,h,r=>by
  cases h with
  | cons h1 h2 =>
   cases r with
   | cons r1 r2 =>
    obtain ⟨as,q1⟩:=Rp.reads I g d _ _ h1 r1
    obtain ⟨bs,q2⟩:=Rp.readsAll I g ds _ _ h2 r2
    exact ⟨_,ReadsAll.cons q1 q2⟩
theorem Rp.readsKv (I:Inv X pins σ H s) (g:Same G H):∀ (ds:List (D × D)) (kvs:List (Key × V)) (vs:List (Key × Value)) (es:List DictEntry),RpK X.K G kvs ds → KV kvs vs → Pairs (mixKind X.prog X.w) es vs →
  ∃ bs,ReadsAll s.heap (es.map (·.key)) (ds.map (·.1)) [] ∧ ReadsAll s.heap (es.map (·.val)) (ds.map (·.2)) bs
 | [],_,_,_,h,r,p=>by
  cases h
  cases r
  cases p
  exact ⟨_,ReadsAll.nil,ReadsAll.nil⟩
 | (dk,dv) :: ds,_,_,_,h,r,p=>by
  cases h with
  | cons h1 h2 =>
   cases r with
   | cons r1 r2 =>
    rename_i q vs'
    obtain ⟨k',u⟩:=q
    obtain ⟨e1,r1⟩:=r1
    simp only at e1
    subst e1
    cases p with
    | cons p1 p2 p3 =>
     obtain ⟨as,q1⟩:=Rp.reads I g dv _ _ h1 r1
     obtain ⟨bs,q2,q3⟩:=Rp.readsKv I g ds _ _ _ h2 r2 p3
     refine ⟨as ++ bs,?_,?_⟩
     ·exact ReadsAll.cons (as:=[]) (bs:=[]) (Q7F p1) q2
     ·rw [Qq,p2]
      exact ReadsAll.cons q1 q3
end
end
section
variable {X:Cx}
def Qfb:D → D → Option D
 | .int a,.int b=>some (.int (a + b))
 | .str a,.str b=>if a.length + b.length ≤ sizeLine then some (.str (a ++ b)) else none
 | .tuple a,.tuple b=>if a.length + b.length ≤ sizeLine then some (.tuple (a ++ b)) else none
 | _,_=>none
def Qje:D → D → Option D
 | .list a,.list b=>if a.length + b.length ≤ sizeLine then some (.list (a ++ b)) else none
 | _,_=>none
def Q1K:D → D → Option D
 | .int a,.int b=>some (.int (a - b))
 | _,_=>none
def Q0s (i:Int):Bool:=decide (-(2 ^ 64) < i) && decide (i < 2 ^ 64)
def QaM:D → D → Option D
 | .int a,.int b=>if Q0s a || Q0s b then some (.int (a * b)) else none
 | .tuple xs,.int k=>if (!xs.isEmpty) && decide (-1000 ≤ k) && decide (k ≤ 1000) && decide (xs.length ≤ 1000) then some (.tuple (Qn k.toNat xs).flatten) else none
 | _,_=>none
def Qca:D → D → Option D
 | .list xs,.int k=>if decide (0 ≤ k) && decide (k < 2 ^ 62) && decide (xs.length * k.toNat ≤ sizeLine) then some (.list (Qn k.toNat xs).flatten) else none
 | _,_=>none
def Q2Y:D → D → Option D
 | .int a,.int b=>if decide (0 < b) && decide (b < 1073741824) then some (.int (a / b)) else none
 | _,_=>none
def Q17:D → D → Option D
 | .int a,.int b=>if 0 < b then some (.int (a % b)) else none
 | _,_=>none
def Q33:D → D → Option D
 | .int a,.int b=>if decide (0 ≤ b) && decide (b ≤ 1000000) && decide (a.natAbs < 2 ^ 64) then some (.int (a ^ b.toNat)) else none
 | _,_=>none
def QfT (K:PySem.W.Frag):R2:=fun x y H Q=>rI0 (fun i j=>.int (i + j)) x y H Q ∨ (∃ i j,x = .str i ∧ y = .str j ∧ i.length + j.length ≤ sizeLine ∧ Q (.str (i ++ j)) H) ∨ rCatA K x y H Q
theorem QgY:OpR X (binaryOp .Add) (QfT X.K):=op_add.or (op_add_str.or op_catA)
theorem QiC:OpS X (QfT X.K) Qfb:=by
 intro Y F H δ σ A R x y d e z S rx ry hg Q k
 cases d with
 | int i =>
  cases e with
  | int j =>
   cases hg
   rw [rx.int,ry.int]
   exact .inl ⟨i,j,rfl,rfl,k _ F H Stp.refl S (.int _)⟩
  | _=>cases hg
 | str i =>
  cases e with
  | str j =>
   simp only [Qfb] at hg
   split at hg
   ·rename_i hz
    cases hg
    rw [rx.str,ry.str]
    exact .inr (.inl ⟨i,j,rfl,rfl,hz,k _ F H Stp.refl S (.str _)⟩)
   ·cases hg
  | _=>cases hg
 | tuple i =>
  cases e with
  | tuple j =>
   simp only [Qfb] at hg
   split at hg
   ·rename_i hz
    cases hg
    obtain ⟨a,xs,rfl,h0,h1,r1⟩:=rx.tup S
    obtain ⟨b,ys,rfl,h3,h2,r2⟩:=ry.tup S
    refine .inr (.inr ⟨a,b,xs,ys,rfl,rfl,h1,h2,by rw [r1.length,r2.length]; exact hz,fun e0=>?_,fun n1 e0=>?_,fun n1 n2 p hp=>?_⟩)
    ·subst e0
     cases r1
     exact k _ F H Stp.refl S (.tup h3 r2)
    ·subst e0
     cases r2
     rw [J4] at k
     exact k _ F H Stp.refl S (.tup h0 r1)
    ·exact k _ _ _ (Stp.laid S hp) (S.laid hp) (.tup (.inl (.inl upd_same)) ((r1.append r2).mono (Stp.laid (M:=[]) S hp).f))
   ·cases hg
  | _=>cases hg
 | _=>cases hg
theorem Rps.rep {K:PySem.W.Frag} {G:Hp} {xs:List V} {ds:List D} (h:Rps K G xs ds):∀ k:Nat,Rps K G (Qn k xs).flatten (Qn k ds).flatten
 | 0=>.nil
 | k + 1=>by
  rw [Xb,List.flatten_cons,Xb,List.flatten_cons]
  exact h.append (h.rep k)
theorem QiW:OpN X rRep Qca:=by
 intro Y F H δ σ A R x y d e z S rx ry hg Q k
 cases d with
 | list i =>
  cases e with
  | int j =>
   simp only [Qca] at hg
   split at hg
   ·rename_i hz
    cases hg
    simp only [Q5,decide_eq_true_eq] at hz
    obtain ⟨⟨z1,z2⟩,z3⟩:=hz
    obtain ⟨a,xs,rfl,h1,r1⟩:=rx.list S
    rw [ry.int]
    refine ⟨a,j,xs,rfl,rfl,h1,by omega,by omega,by rw [r1.length]; exact z3,fun p hp=>k p F _ (Stp.laidO hp) (S.laidO hp) hp (S.sub.free hp) ⟨_,upd_same,r1.rep _⟩⟩
   ·cases hg
  | _=>cases hg
 | _=>cases hg
theorem K2:OpS X (rI0 fun i j=>.int (i - j)) Q1K:=by
 intro Y F H δ σ A R x y d e z S rx ry hg Q k
 cases d with
 | int i =>
  cases e with
  | int j =>
   cases hg
   rw [rx.int,ry.int]
   exact ⟨i,j,rfl,rfl,k _ F H Stp.refl S (.int _)⟩
  | _=>cases hg
 | _=>cases hg
theorem Q6P:OpS X (rI CDiv fun i j=>.int (i / j)) Q2Y:=by
 intro Y F H δ σ A R x y d e z S rx ry hg Q k
 cases d with
 | int i =>
  cases e with
  | int j =>
   simp only [Q2Y] at hg
   split at hg
   ·rename_i hz
    cases hg
    simp only [Q5,decide_eq_true_eq] at hz
    rw [rx.int,ry.int]
    exact ⟨i,j,rfl,rfl,hz,k _ F H Stp.refl S (.int _)⟩
   ·cases hg
  | _=>cases hg
 | _=>cases hg
theorem Q4K:OpS X (rI (fun _ j=>0 < j) fun i j=>.int (i % j)) Q17:=by
 intro Y F H δ σ A R x y d e z S rx ry hg Q k
 cases d with
 | int i =>
  cases e with
  | int j =>
   simp only [Q17] at hg
   split at hg
   ·rename_i hz
    cases hg
    rw [rx.int,ry.int]
    exact ⟨i,j,rfl,rfl,hz,k _ F H Stp.refl S (.int _)⟩
   ·cases hg
  | _=>cases hg
 | _=>cases hg
theorem Q4O:OpS X (rI CPow fun i j=>.int (i ^ j.toNat)) Q33:=by
 intro Y F H δ σ A R x y d e z S rx ry hg Q k
 cases d with
 | int i =>
  cases e with
  | int j =>
   simp only [Q33] at hg
   split at hg
   ·rename_i hz
    cases hg
    simp only [Q5,decide_eq_true_eq] at hz
    rw [rx.int,ry.int]
    exact ⟨i,j,rfl,rfl,⟨hz.1.1,hz.1.2,hz.2⟩,k _ F H Stp.refl S (.int _)⟩
   ·cases hg
  | _=>cases hg
 | _=>cases hg
end
end Z
namespace Z
open PySem PySem.Spec PyProof.Rows L2
theorem Qk4 (l:Addr) (items:Array Value) (n:Nat) (sl:Array (Option Value)) (dd:Option Addr) (u:Tok) :
  Meets (Builtin.«tuple.__mul__» ⟨[.ref l,.int 1 u],[]⟩) (fun _ R s=>s.heap.get? l = some { cls:=.type "tuple",dict:=dd,data:=.seq items n,slots:=sl } ∧
   R (.ok (.ret (Value.ref l))) s) :=
 .of_wp fun prog w A R s h=>by
  obtain ⟨hp,g,d,tk,os⟩:=s
  obtain ⟨hl,h⟩:=h
  have f1:=AutoSeq1.idx_int
  have c0:(decide ((1:Int) < -(2 ^ 63)) || decide ((1:Int) ≥ 2 ^ 63)) = false:=by decide
  have c1:(items.isEmpty || ((1:Int) == 1)) = true:=by simp
  wp_walk using wpAny_loadPart' hl
  repeat (first
   | (refine wpAny_ite_false (decide_eq_false (by rw [c0]; exact X0)) ?_; wp_walk using wpAny_loadPart' hl)
   | (refine wpAny_ite_true (decide_eq_true c1) ?_; wp_walk using wpAny_loadPart' hl))
  exact ⟨_,rfl,h⟩
theorem Qkj (l:Addr) (items:Array Value) (n:Nat) (sl:Array (Option Value)) (dd:Option Addr) (x:Int) (u:Tok) (hx:x ≤ 0) (hx2:-(2 ^ 63) ≤ x) (hne:items.isEmpty = false) :
  Meets (Builtin.«tuple.__mul__» ⟨[.ref l,.int x u],[]⟩) (fun _ R s=>s.heap.get? l = some { cls:=.type "tuple",dict:=dd,data:=.seq items n,slots:=sl } ∧
   R (.ok (.ret (Value.ref s.heap.objs.size))) { s with heap:=s.heap.push { cls:=Value.type "tuple",data:=Data.seq #[] },toks:=s.toks }) :=
 .of_wp fun prog w A R s h=>by
  obtain ⟨hp,g,d,tk,os⟩:=s
  obtain ⟨hl,h⟩:=h
  have f1:=AutoSeq1.idx_int
  have c0:(decide (x < -(2 ^ 63)) || decide (x ≥ 2 ^ 63)) = false:=by
   rw [decide_eq_false (by omega),decide_eq_false (by omega)] <;> rfl
  have c1:(items.isEmpty || x == 1) = false:=by
   rw [hne,Bool.false_or]
   exact beq_eq_false_iff_ne.mpr (by omega)
  have c2:(decide (x ≤ 0) || items.isEmpty) = true:=by
   rw [decide_eq_true hx]
   rfl
  wp_walk using wpAny_loadPart' hl
  repeat (first
   | (refine wpAny_ite_false (decide_eq_false (by rw [c0]; exact X0)) ?_; wp_walk using wpAny_loadPart' hl)
   | (refine wpAny_ite_false (decide_eq_false (by rw [c1]; exact X0)) ?_; wp_walk using wpAny_loadPart' hl)
   | (refine wpAny_ite_true (decide_eq_true c2) ?_; wp_walk using wpAny_loadPart' hl))
  exact ⟨_,rfl,h⟩
section
variable {X:Cx}
def Qii (K:PySem.W.Frag):R2:=fun x y H Q=>∃ l k xs,x = .ref l ∧ y = .int k ∧ SqT K H l xs ∧ xs ≠ [] ∧ -1000 ≤ k ∧ k ≤ 1000 ∧ xs.length ≤ 1000 ∧ (k = 1 → Q (.ref l) H) ∧ (k ≠ 1 → ∀ p,H p = none → Q (.ref p) (upd H p (.tup (Qn k.toNat xs).flatten)))
theorem Qh1:OpR X (binaryOp .Mult) (Qii X.K):=by
 intro pins s σ H x y v u Q I rx ry h
 obtain ⟨l,k,xs,rfl,rfl,hT,hne,h1,h2,hz,q1,q2⟩:=h
 by_cases hk:2 ≤ k
 ·exact op_repT pins s σ H _ _ v u Q I rx ry ⟨l,k,xs,rfl,rfl,hT,hne,hk,h2,hz,q2 (by omega)⟩
 ·cases rx
  obtain ⟨t,rfl⟩:=ry
  obtain ⟨its,r,⟨⟨cls,dd,data,sl⟩,ho,hc,n,hd⟩,hs⟩:=I.tuple hT
  simp only at hc hd
  subst hc hd
  have hi:its.toArray.isEmpty = false:=by
   cases its with
   | nil =>
    cases r
    exact absurd rfl hne
   | cons a b=>rfl
  by_cases hk1:k = 1
  ·subst hk1
   refine wpAny_binaryOp_repeat_ref (T := "tuple") (U := "int") (by decide) ⟨_,ho,rfl⟩ (fun s'=>typeIs_int s' 1 t) noFill_tuple_mul F.fills_int_mul F.slot_int_rmul repeat_tuple F.slot_int_index.lookup
    (call_meets F.slot_int_rmul (typeIs_int s 1 t) F.entry_int_rmul (F.args_int_rmul_2 _ _) (int_rmul_tuple 1 t l its.toArray n dd sl)
     ⟨ho,rfl,⟨_,ho,rfl⟩,call_meets F.slot_tuple_mul ⟨_,ho,rfl⟩ F.entry_tuple_mul (F.args_tuple_mul_2 _ _) (Qk4 l its.toArray n sl dd t) ⟨ho,?_⟩⟩)
   exact ⟨.ref l,H,I,rfl,q1 rfl⟩
  ·refine wpAny_binaryOp_repeat_ref (T := "tuple") (U := "int") (by decide) ⟨_,ho,rfl⟩ (fun s'=>typeIs_int s' k t) noFill_tuple_mul F.fills_int_mul F.slot_int_rmul repeat_tuple F.slot_int_index.lookup
    (call_meets F.slot_int_rmul (typeIs_int s k t) F.entry_int_rmul (F.args_int_rmul_2 _ _) (int_rmul_tuple k t l its.toArray n dd sl)
     ⟨ho,rfl,⟨_,ho,rfl⟩,call_meets F.slot_tuple_mul ⟨_,ho,rfl⟩ F.entry_tuple_mul (F.args_tuple_mul_2 _ _) (Qkj l its.toArray n sl dd k t (by omega) (by omega) hi) ⟨ho,?_⟩⟩)
   have e0:(Qn k.toNat xs).flatten = []:=by
    rw [show k.toNat = 0 by omega]
    rfl
   have q:=q2 hk1
   rw [e0] at q
   exact ⟨.ref s.heap.objs.size,_,I.laid (t':=s.toks) (o:=.tup []) (fun b ob q=>Heap.get?_push_of_some _ q) (Jf _) ⟨Jo _,[],.nil,IsTup.new _ _⟩,rfl,q _ (I.hok.fresh (Jf _))⟩
def Qg4 (K:PySem.W.Frag):R2:=fun x y H Q=>rI CMul (fun i j=>.int (i * j)) x y H Q ∨ Qii K x y H Q
theorem Qh3:OpR X (binaryOp .Mult) (Qg4 X.K):=op_mul.or Qh1
theorem QjB:OpS X (Qg4 X.K) QaM:=by
 intro Y F H δ σ A R x y d e z S rx ry hg Q k
 cases d with
 | int i =>
  cases e with
  | int j =>
   simp only [QaM] at hg
   split at hg
   ·rename_i hz
    cases hg
    rw [rx.int,ry.int]
    refine .inl ⟨i,j,rfl,rfl,?_,k _ F H Stp.refl S (.int _)⟩
    simp only [Q0s,Jg,Q5,decide_eq_true_eq] at hz
    exact hz
   ·cases hg
  | _=>cases hg
 | tuple i =>
  cases e with
  | int j =>
   simp only [QaM] at hg
   split at hg
   ·rename_i hz
    cases hg
    simp only [Q5,decide_eq_true_eq,Ji] at hz
    obtain ⟨⟨⟨z1,z0⟩,z2⟩,z3⟩:=hz
    obtain ⟨a,xs,rfl,h0,h1,r1⟩:=rx.tup S
    rw [ry.int]
    refine .inr ⟨a,j,xs,rfl,rfl,h1,?_,z0,z2,by rw [r1.length]; exact z3,fun e1=>?_,fun e1 p hp=>?_⟩
    ·intro e0
     subst e0
     cases r1
     cases z1
    ·subst e1
     exact k _ F H Stp.refl S (.tup h0 (by simpa using r1))
    ·exact k _ _ _ (Stp.laid S hp) (S.laid hp) (.tup (.inl (.inl upd_same)) ((r1.rep _).mono (Stp.laid (M:=[]) S hp).f))
   ·cases hg
  | _=>cases hg
 | _=>cases hg
end
end Z
namespace Z
open PySem PySem.Spec PyProof.Rows L2
theorem DGet.f {H:Hp} {a:Addr} {o:Obj} {kvs:List (Key × V)} {k:Key} (e:H a = some (.frz o (.dK kvs))):DGet H a (kV k) (valV kvs k):=.inl ⟨kvs,k,.inr ⟨o,e⟩,rfl,rfl⟩
def Kk:D → Option Key
 | .int i=>some (.inl i)
 | .str s=>some (.inr s)
 | _=>none
theorem Q0x (k:Key):Kk (Q7m k) = some k:=by cases k <;> rfl
def Q7R (ds:List (D × D)) (k:Key):Option D:=(ds.find? fun p=>decide (Kk p.1 = some k)).map (·.2)
theorem RpK.val {K:PySem.W.Frag} {G:Hp}:∀ {kvs:List (Key × V)} {ds:List (D × D)} (k:Key),RpK K G kvs ds → (valV kvs k = none ∧ Q7R ds k = none) ∨ ∃ v d,valV kvs k = some v ∧ Q7R ds k = some d ∧ Rp K G v d
 | _,_,_,.nil=>.inl ⟨rfl,rfl⟩
 | _,_,k,.cons (k:=k0) (v:=v0) (r:=r0) (d:=d0) (ds:=ds0) h r=>by
  by_cases e:k0 = k
  ·refine .inr ⟨_,_,valV_pos e,?_,h⟩
   unfold Q7R
   rw [List.find?_cons_of_pos (by rw [Q0x,e]; simp)]
   rfl
  ·have e1:Q7R ((Q7m k0,d0) :: ds0) k = Q7R ds0 k:=by
    unfold Q7R
    rw [List.find?_cons_of_neg (by rw [Q0x]; simpa using e)]
   rw [valV_neg (p:=(k0,v0)) e,e1]
   exact r.val k
def shp (d:D):Bool:=d.plain && decide (d.depth ≤ 64)
def eqD (d e:D):Option Bool:=if shp d && shp e then some (Jm d e) else none
def neD (d e:D):Option Bool:=(eqD d e).map (!·)
def ltD:D → D → Option Bool
 | .int a,.int b=>some (decide (a < b))
 | .tuple a,.tuple b=>if PySem.W.alike (.tuple a) (.tuple b) && decide ((PyData.tuple a).depth ≤ 64) then some (PySem.W.dataLt (.tuple a) (.tuple b)) else none
 | _,_=>none
def leD:D → D → Option Bool
 | .int a,.int b=>some (decide (a ≤ b))
 | _,_=>none
def gtD:D → D → Option Bool
 | .int a,.int b=>some (decide (b < a))
 | _,_=>none
def geD:D → D → Option Bool
 | .int a,.int b=>some (decide (b ≤ a))
 | _,_=>none
def inD (d:D):D → Option Bool
 | .list ds=>if shp d && shp (.list ds) then some (ds.any fun z=>Jm z d) else none
 | .tuple ds=>if shp d && shp (.tuple ds) then some (ds.any fun z=>Jm z d) else none
 | .dict ds=>(Kk d).map fun k=>(Q7R ds k).isSome
 | .str z=>match d with
  | .str x=>some (!(Builtin.Str.occurrences z x 0 z.length 1).isEmpty)
  | _=>none
 | _=>none
def Q4T (d e:D):Option Bool:=(inD d e).map (!·)
def Qgw:D → Bool
 | .none=>true
 | _=>false
def isD (d:D):D → Option Bool
 | .none=>some (Qgw d)
 | .bool b=>match d with
  | .bool a=>some (decide (a = b))
  | _=>none
 | _=>none
section
variable {X:Cx}
def Q86 (X:Cx) (op:CmpOp) (g:D → D → Option Bool):Prop :=
 ∀ (pins:List (Addr × Obj)) (s:Shared) (σ:L2.St) (H:Hp) (x y:V) (v u:Value) (Q:VK),L2.Inv X pins σ H s → RelV x v → RelV y u → ∀ (G:Hp) (d e:D) (b:Bool),Same G H → Rp X.K G x d → Rp X.K G y e → g d e = some b → Q (.bl b) H →
  wpAny (model X.prog X.w) X.A (compareOp op v u) (EP X pins σ Q) X.xe s
def Qib (X:Cx) (g:D → D → Option Bool):R2:=fun x y H Q=>∃ G d e b,Same G H ∧ Rp X.K G x d ∧ Rp X.K G y e ∧ g d e = some b ∧ Q (.bl b) H
def bD (g:D → D → Option Bool):D → D → Option D:=fun d e=>(g d e).map Qj
theorem Q86.op {op:CmpOp} {g} (h:Q86 X op g):OpR X (compareOp op) (Qib X g):=by
 intro pins s σ H x y v u Q I rx ry q
 obtain ⟨G,d,e,b,sG,r1,r2,hg,q⟩:=q
 exact h pins s σ H x y v u Q I rx ry G d e b sG r1 r2 hg q
theorem Ye {g}:OpS X (Qib X g) (bD g):=by
 intro Y F H δ σ A R x y d e z S rx ry hg Q k
 unfold bD at hg
 cases e1:g d e with
 | none=>rw [e1] at hg; cases hg
 | some b =>
  rw [e1] at hg
  cases hg
  exact ⟨_,d,e,b,Q2S S,rx.ex S,ry.ex S,e1,k _ F H Stp.refl S (.bl _)⟩
theorem Km {d:D} (h:shp d = true):d.plain = true:=by
 unfold shp at h
 rw [Q5] at h
 exact h.1
theorem Q1m {d:D} (h:shp d = true):d.depth ≤ 64:=by
 unfold shp at h
 rw [Q5,decide_eq_true_eq] at h
 exact h.2
theorem Q8x {ds:List D} (h:shp (.list ds) = true):Jv ds = true:=Km h
theorem Q7e {ds:List D} (h:shp (.tuple ds) = true):Jv ds = true:=Km h
theorem Kj (hu:X.A.units + 65 < cLine):Q86 X .Eq eqD:=by
 intro pins s σ H x y v u Q I rx ry G d e b sG r1 r2 hg q
 unfold eqD at hg
 split at hg
 ·rename_i c
  cases hg
  rw [Q5] at c
  obtain ⟨as,q1⟩:=Rp.reads I sG d x v r1 rx
  obtain ⟨bs,q2⟩:=Rp.reads I sG e y u r2 ry
  exact SeqAt.eq_plain q1 q2 (Km c.1) (Km c.2) (by have:=Q1m c.1; have:min d.depth e.depth ≤ d.depth:=Nat.min_le_left _ _; omega) ⟨.bl _,H,I,rfl,q⟩
 ·cases hg
theorem Q0O (hu:X.A.units + 65 < cLine):Q86 X .NotEq neD:=by
 intro pins s σ H x y v u Q I rx ry G d e b sG r1 r2 hg q
 unfold neD eqD at hg
 split at hg
 ·rename_i c
  cases hg
  rw [Q5] at c
  obtain ⟨as,q1⟩:=Rp.reads I sG d x v r1 rx
  obtain ⟨bs,q2⟩:=Rp.reads I sG e y u r2 ry
  exact SeqAt.ne_plain q1 q2 (Km c.1) (Km c.2) (by have:=Q1m c.1; have:min d.depth e.depth ≤ d.depth:=Nat.min_le_left _ _; omega) ⟨.bl _,H,I,rfl,q⟩
 ·cases hg
theorem Q3F (hu:X.A.units + 65 < cLine):Q86 X .Lt ltD:=by
 intro pins s σ H x y v u Q I rx ry G d e b sG r1 r2 hg q
 unfold ltD at hg
 split at hg
 ·cases hg
  cases r1
  cases r2
  exact op_lt pins s σ H _ _ v u Q I rx ry ⟨_,_,rfl,rfl,q⟩
 ·rename_i a b'
  split at hg
  ·rename_i c
   cases hg
   rw [Q5] at c
   obtain ⟨as,q1⟩:=Rp.reads I sG (.tuple a) x v r1 rx
   obtain ⟨bs,q2⟩:=Rp.reads I sG (.tuple b') y u r2 ry
   have h1:=of_decide_eq_true c.2
   have h2:min (PyData.tuple a).depth (PyData.tuple b').depth ≤ (PyData.tuple a).depth:=Nat.min_le_left _ _
   exact PySem.W.rcLt_alike (.tuple a) (.tuple b') X.A s v u as bs q1 q2 c.1 (by simp) (by omega) X.prog X.w X.xe _ ⟨.bl _,H,I,rfl,q⟩
  ·cases hg
 ·cases hg
theorem Q7o:Q86 X .LtE leD:=by
 intro pins s σ H x y v u Q I rx ry G d e b sG r1 r2 hg q
 unfold leD at hg
 split at hg
 ·cases hg
  cases r1
  cases r2
  exact op_le pins s σ H _ _ v u Q I rx ry ⟨_,_,rfl,rfl,q⟩
 ·cases hg
theorem Qd1:Q86 X .Gt gtD:=by
 intro pins s σ H x y v u Q I rx ry G d e b sG r1 r2 hg q
 unfold gtD at hg
 split at hg
 ·cases hg
  cases r1
  cases r2
  exact op_gt pins s σ H _ _ v u Q I rx ry ⟨_,_,rfl,rfl,q⟩
 ·cases hg
theorem QkM:Q86 X .GtE geD:=by
 intro pins s σ H x y v u Q I rx ry G d e b sG r1 r2 hg q
 unfold geD at hg
 split at hg
 ·cases hg
  cases r1
  cases r2
  exact op_ge pins s σ H _ _ v u Q I rx ry ⟨_,_,rfl,rfl,q⟩
 ·cases hg
theorem Q6a {K:PySem.W.Frag} {G:Hp} {x:V} {d:D} {k:Key} (h:Kk d = some k) (r:Rp K G x d):x = kV k:=by
 cases r with
 | int i=>cases h; rfl
 | str i=>cases h; rfl
 | _=>cases h
theorem QhX (hu:X.A.units + 65 < cLine):Q86 X .In inD:=by
 intro pins s σ H x y v u Q I rx ry G d e b sG r1 r2 hg q
 obtain ⟨as,q1⟩:=Rp.reads I sG d x v r1 rx
 unfold inD at hg
 split at hg
 ·split at hg
  ·rename_i ds c
   cases hg
   rw [Q5] at c
   obtain ⟨bs,q2⟩:=Rp.reads I sG (.list ds) y u r2 ry
   exact SeqAt.in_list_data q2 q1 (Q8x c.2) (Km c.1) (by have:=Q1m c.1; have:min (Jc ds) d.depth ≤ d.depth:=Nat.min_le_right _ _; omega) ⟨.bl _,H,I,rfl,q⟩
  ·cases hg
 ·split at hg
  ·rename_i ds c
   cases hg
   rw [Q5] at c
   obtain ⟨bs,q2⟩:=Rp.reads I sG (.tuple ds) y u r2 ry
   exact SeqAt.in_tuple_data q2 q1 (Q7e c.2) (Km c.1) (by have:=Q1m c.1; have:min (Jc ds) d.depth ≤ d.depth:=Nat.min_le_right _ _; omega) ⟨.bl _,H,I,rfl,q⟩
  ·cases hg
 ·rename_i ds
  cases e1:Kk d with
  | none=>rw [e1] at hg; cases hg
  | some k =>
   rw [e1] at hg
   cases hg
   cases r2 with
   | dic h1 rk =>
    cases ry
    have ex:=Q6a e1 r1
    subst ex
    refine d_in (by omega) I (DGet.f (sG _ _ h1)) rx fun s' I'=>⟨.bl _,H,I',rfl,?_⟩
    rcases rk.val k with ⟨v1,v2⟩ | ⟨v0,d0,v1,v2,_⟩
    ·simp only [v2] at q; rw [v1]; exact q
    ·simp only [v2] at q; rw [v1]; exact q
 ·split at hg
  ·cases hg
   cases r1
   cases r2
   exact op_in_str pins s σ H _ _ v u Q I rx ry ⟨_,_,rfl,rfl,q⟩
  ·cases hg
 ·cases hg
theorem QeB (hu:X.A.units + 65 < cLine):Q86 X .NotIn Q4T:=by
 intro pins s σ H x y v u Q I rx ry G d e b sG r1 r2 hg q
 obtain ⟨as,q1⟩:=Rp.reads I sG d x v r1 rx
 unfold Q4T inD at hg
 split at hg
 ·split at hg
  ·rename_i ds c
   cases hg
   rw [Q5] at c
   obtain ⟨bs,q2⟩:=Rp.reads I sG (.list ds) y u r2 ry
   exact SeqAt.notIn_list_data q2 q1 (Q8x c.2) (Km c.1) (by have:=Q1m c.1; have:min (Jc ds) d.depth ≤ d.depth:=Nat.min_le_right _ _; omega) ⟨.bl _,H,I,rfl,q⟩
  ·cases hg
 ·split at hg
  ·rename_i ds c
   cases hg
   rw [Q5] at c
   obtain ⟨bs,q2⟩:=Rp.reads I sG (.tuple ds) y u r2 ry
   exact SeqAt.notIn_tuple_data q2 q1 (Q7e c.2) (Km c.1) (by have:=Q1m c.1; have:min (Jc ds) d.depth ≤ d.depth:=Nat.min_le_right _ _; omega) ⟨.bl _,H,I,rfl,q⟩
  ·cases hg
 ·rename_i ds
  cases e1:Kk d with
  | none=>rw [e1] at hg; cases hg
  | some k =>
   rw [e1] at hg
   cases hg
   cases r2 with
   | dic h1 rk =>
    cases ry
    have ex:=Q6a e1 r1
    subst ex
    refine d_notIn (by omega) I (DGet.f (sG _ _ h1)) rx fun s' I'=>⟨.bl _,H,I',rfl,?_⟩
    rcases rk.val k with ⟨v1,v2⟩ | ⟨v0,d0,v1,v2,_⟩
    ·simp only [v2] at q; rw [v1]; exact q
    ·simp only [v2] at q; rw [v1]; exact q
 ·split at hg
  ·cases hg
   cases r1
   cases r2
   exact op_notIn_str pins s σ H _ _ v u Q I rx ry ⟨_,_,rfl,rfl,q⟩
  ·cases hg
 ·cases hg
theorem Qh4 {K:PySem.W.Frag} {G:Hp} {x:V} {d:D} (r:Rp K G x d):decide (x = V.non) = Qgw d:=by
 cases r <;> rfl
theorem Qkt:Q86 X .Is isD:=by
 intro pins s σ H x y v u Q I rx ry G d e b sG r1 r2 hg q
 unfold isD at hg
 split at hg
 ·have e1:=Qh4 r1
  cases hg
  cases r2
  refine op_isN pins s σ H _ _ v u Q I rx ry ⟨rfl,?_⟩
  rw [e1]
  exact q
 ·split at hg
  ·cases hg
   cases r1
   cases r2
   exact op_is_bl pins s σ H _ _ v u Q I rx ry ⟨_,_,rfl,rfl,q⟩
  ·cases hg
 ·cases hg
end
end Z
namespace Z
open PySem PySem.Spec PyProof.Rows L2
section
variable {X:Cx} {pos:Pos}
theorem SR.seen {K:PySem.W.Frag} {Y:Fx} {F H:Hp} {δ:List Sl} {σ:L2.St} {A:Nat → List Addr} (S:SR K Y F H δ σ A) {p:Addr} {o:HO} (hp:H p = none):SR K Y (upd F p o) (upd H p o) δ σ A:=S.laid hp
def Yr (d e:D):Option D:=(Qfb d e).or (Qje d e)
def Vx (d e:D):Option D:=(QaM d e).or (Qca d e)
def Qih (K:PySem.W.Frag):R2:=fun x y H Q=>QfT K x y H Q ∨ rCat x y H Q
theorem Xw:OpR X (binaryOp .Add) (Qih X.K):=QgY.or op_cat
theorem QdC {d e z:D} (h:Qje d e = some z):∃ a b,d = .list a ∧ e = .list b ∧ a.length + b.length ≤ sizeLine ∧ z = .list (a ++ b):=by
 unfold Qje at h
 split at h
 ·split at h
  ·rename_i hz
   cases h
   exact ⟨_,_,rfl,rfl,hz,rfl⟩
  ·cases h
 ·cases h
theorem Xv:OpS X (Qih X.K) Yr:=by
 intro Y F H δ σ A R x y d e z S rx ry hg Q k
 unfold Yr at hg
 cases e1:Qfb d e with
 | some w =>
  rw [e1] at hg
  cases hg
  exact .inl (QiC Y F H δ σ A R x y d e _ S rx ry e1 Q k)
 | none =>
  rw [e1] at hg
  obtain ⟨i,j,rfl,rfl,hz,rfl⟩:=QdC hg
  obtain ⟨a,xs,rfl,h1,r1⟩:=rx.list S
  obtain ⟨b,ys,rfl,h2,r2⟩:=ry.list S
  exact .inr ⟨a,b,xs,ys,rfl,rfl,h1,h2,by rw [r1.length,r2.length]; exact hz,fun p hp=>k _ _ _ (Stp.laid S hp) (S.laid hp) (.lst upd_same ((r1.append r2).mono (Stp.laid (M:=[]) S hp).f))⟩
def Qim (K:PySem.W.Frag):R2:=fun x y H Q=>Qg4 K x y H Q ∨ rRep x y H Q
theorem Yu:OpR X (binaryOp .Mult) (Qim X.K):=Qh3.or op_rep
theorem Qdv {d e z:D} (h:Qca d e = some z):∃ xs k,d = .list xs ∧ e = .int k ∧ 0 ≤ k ∧ k < 2 ^ 62 ∧ xs.length * k.toNat ≤ sizeLine ∧ z = .list (Qn k.toNat xs).flatten:=by
 unfold Qca at h
 split at h
 ·split at h
  ·rename_i hz
   cases h
   simp only [Q5,decide_eq_true_eq] at hz
   exact ⟨_,_,rfl,rfl,hz.1.1,hz.1.2,hz.2,rfl⟩
  ·cases h
 ·cases h
theorem Yt:OpS X (Qim X.K) Vx:=by
 intro Y F H δ σ A R x y d e z S rx ry hg Q k
 unfold Vx at hg
 cases e1:QaM d e with
 | some w =>
  rw [e1] at hg
  cases hg
  exact .inl (QjB Y F H δ σ A R x y d e _ S rx ry e1 Q k)
 | none =>
  rw [e1] at hg
  obtain ⟨i,j,rfl,rfl,z1,z2,hz,rfl⟩:=Qdv hg
  obtain ⟨a,xs,rfl,h1,r1⟩:=rx.list S
  rw [ry.int]
  exact .inr ⟨a,j,xs,rfl,rfl,h1,by omega,by omega,by rw [r1.length]; exact hz,fun p hp=>k _ _ _ (Stp.laid S hp) (S.laid hp) (.lst upd_same ((r1.rep _).mono (Stp.laid (M:=[]) S hp).f))⟩
def QiV:D → Option D
 | .int i=>some (.int (-i))
 | _=>none
def f1 (g:D → Option D) (fa:List Sl → Option (D × List Sl)):List Sl → Option (D × List Sl):=fun δ=>(fa δ).bind fun p=>(g p.1).map fun z=>(z,p.2)
theorem Q5B {g:D → Option D} {fa:List Sl → Option (D × List Sl)} {δ δ':List Sl} {z:D} (h:f1 g fa δ = some (z,δ')):∃ d,fa δ = some (d,δ') ∧ g d = some z:=by
 unfold f1 at h
 cases e1:fa δ with
 | none=>rw [e1] at h; cases h
 | some p =>
  obtain ⟨d,δ1⟩:=p
  rw [e1] at h
  simp only [Q1] at h
  cases e3:g d with
  | none=>rw [e3] at h; cases h
  | some w =>
   rw [e3] at h
   cases h
   exact ⟨d,rfl,e3⟩
theorem Qjv {a:Expr} {fa} {R M:List Nat} (ha:EV X a fa R M):EV X (.UnaryOp .USub a pos) (f1 QiV fa) [] M:=by
 obtain ⟨t,p,q⟩:=ha
 refine ⟨_,pe_un un_neg p,fun Y F H δ σ A S z δ' e Q k=>?_⟩
 obtain ⟨d,e1,e2⟩:=Q5B e
 refine q Y F H δ σ A S d δ' e1 _ fun v F1 H1 st S1 r=>?_
 cases d with
 | int i =>
  cases e2
  exact ⟨i,r.int,k _ F1 H1 st S1 (.inl (.int _))⟩
 | _=>cases e2
def Qkv:R2:=fun x y H Q=>∃ a v,x = .ref a ∧ DGet H a y (some v) ∧ Q v H
theorem QhK (hu:X.A.units + 1 < cLine):IxR X Qkv:=by
 intro value slice pins s σ H x y v u Q I rx ry h hs
 obtain ⟨a,z,rfl,g,q⟩:=h
 cases rx
 exact tail_any (dict_typeIs I g) PySem.F.slot_dict_getitem.lookup (d_getItem hu I g ry fun w' s' I' r'=>⟨z,H,I',r',q⟩) hs
def QkE (K:PySem.W.Frag):R2:=fun x y H Q=>rIx K x y H Q ∨ Qkv x y H Q
theorem QdG (hu:X.A.units + 1 < cLine):IxR X (QkE X.K):=ix_seq.or (QhK hu)
def W1:D → D → Option D
 | .list ds,.int i=>atI ds i
 | .tuple ds,.int i=>atI ds i
 | .str z,.int i=>if z.length ≤ sizeLine then (atI z.cps.toList i).map fun c=>.str ⟨#[c]⟩ else none
 | .dict ds,k=>(Kk k).bind (Q7R ds)
 | _,_=>none
theorem Rps.at {K:PySem.W.Frag} {G:Hp} {xs:List V} {ds:List D} {i:Int} {d:D} (h:Rps K G xs ds) (e:atI ds i = some d):∃ v,atI xs i = some v ∧ Rp K G v d:=by
 unfold atI at e ⊢
 rw [h.length]
 cases e1:ixN ds.length i with
 | none=>rw [e1] at e; cases e
 | some j =>
  rw [e1] at e
  exact h.get e
theorem Qiw:OpS X (QkE X.K) W1:=by
 intro Y F H δ σ A R x y d e z S rx ry hg Q k
 unfold W1 at hg
 split at hg
 ·rename_i ds i
  obtain ⟨a,xs,rfl,h1,r1⟩:=rx.list S
  obtain ⟨v,e1,r⟩:=r1.at hg
  rw [ry.int]
  exact .inl (.inl ⟨a,xs,i,v,rfl,rfl,SqL.of h1,e1,k v F H Stp.refl S r⟩)
 ·rename_i ds i
  obtain ⟨a,xs,rfl,_,h1,r1⟩:=rx.tup S
  obtain ⟨v,e1,r⟩:=r1.at hg
  rw [ry.int]
  exact .inl (.inr (.inl ⟨a,xs,i,v,rfl,rfl,h1,e1,k v F H Stp.refl S r⟩))
 ·rename_i zz i
  split at hg
  ·rename_i hz
   rw [rx.str,ry.int]
   cases e1:atI zz.cps.toList i with
   | none=>rw [e1] at hg; cases hg
   | some c =>
    rw [e1] at hg
    cases hg
    exact .inl (.inr (.inr ⟨zz,i,c,rfl,rfl,hz,e1,k _ F H Stp.refl S (.str _)⟩))
  ·cases hg
 ·rename_i ds _
  cases e1:Kk e with
  | none=>rw [e1] at hg; cases hg
  | some k' =>
   rw [e1] at hg
   obtain ⟨a,_,kvs,rfl,h1,r1⟩:=rx.dict S
   have ey:=Q6a e1 (ry.ex S)
   subst ey
   rcases r1.val k' with ⟨_,v2⟩ | ⟨v0,d0,v1,v2,r0⟩
   ·simp only [Q1] at hg
    rw [v2] at hg; cases hg
   ·simp only [Q1] at hg
    rw [v2] at hg; cases hg
    refine .inr ⟨a,v0,rfl,?_,k v0 F H Stp.refl S r0⟩
    rw [← v1]
    exact DGet.f h1
 ·cases hg
theorem V3 {a b:Expr} {fa fb} {Ra Rb Ma Mb:List Nat} (hu:X.A.units + 1 < cLine) (ha:EV X a fa Ra Ma) (hb:EV X b fb Rb Mb) (dj:∀ i ∈ Ra,i ∉ Mb:=by decide) (hs:PlainIx b:=by intro _ _; rfl):EV X (.Subscript a b pos) (f2 W1 fa fb) [] (Ma ++ Mb):=by
 obtain ⟨ta,tb,pa,pb,q⟩:=two (g:=W1) ha hb dj
 refine ⟨_,pe_ix (QdG hu) pa pb hs,fun Y F H δ σ A S z δ' e Q k=>?_⟩
 refine q Y F H δ σ A S z δ' e _ fun x y d e F1 H1 st S1 r1 r2 hg=>?_
 refine Qiw Y F1 H1 δ' σ A _ x y d e z S1 r1 r2 hg Q fun v F2 H2 st2 S2 r3=>?_
 exact k v F2 H2 (Vj S1 st st2) S2 (.inl r3)
def OV (X:Cx) (e:Option Expr) (f:List Sl → Option (Option Int × List Sl)) (M:List Nat):Prop :=
 ∃ t,PO X e t ∧ ∀ (Y:Fx) (F H:Hp) (δ:List Sl) (σ:L2.St) (A:Nat → List Addr),SR X.K Y F H δ σ A → ∀ (d:Option Int) (δ':List Sl),f δ = some (d,δ') → ∀ Q:Option Int → Hp → Prop,
  (∀ F' H',Stp A M F H F' H' → SR X.K Y F' H' δ' σ A → Q d H') → t σ H Q
def Wa:List Sl → Option (Option Int × List Sl):=fun δ=>some (none,δ)
def Vd (fa:List Sl → Option (D × List Sl)):List Sl → Option (Option Int × List Sl):=fun δ=>(fa δ).bind fun p=>match p.1 with | .int i=>some (some i,p.2) | _=>none
theorem Va:OV X none Wa []:=by
 refine ⟨_,po_none,fun Y F H δ σ A S d δ' e Q k=>?_⟩
 cases e
 exact k F H Stp.refl S
theorem Yp {a:Expr} {fa} {R M:List Nat} (ha:EV X a fa R M):OV X (some a) (Vd fa) M:=by
 obtain ⟨t,p,q⟩:=ha
 refine ⟨_,po_some p,fun Y F H δ σ A S d δ' e Q k=>?_⟩
 unfold Vd at e
 cases e1:fa δ with
 | none=>rw [e1] at e; cases e
 | some p =>
  obtain ⟨d1,δ1⟩:=p
  rw [e1] at e
  refine q Y F H δ σ A S d1 δ1 e1 _ fun v F1 H1 st S1 r=>?_
  cases d1 with
  | int i =>
   cases e
   exact ⟨i,r.int,k F1 H1 st S1⟩
  | _=>cases e
def Yn {α:Type} (xs:List α) (lo hi:Option Int):List α:=(xs.drop (HT.sIx xs.length 0 lo)).take (HT.sIx xs.length xs.length hi - HT.sIx xs.length 0 lo)
theorem Rps.cut {K:PySem.W.Frag} {G:Hp} {xs:List V} {ds:List D} (h:Rps K G xs ds) (lo hi:Option Int):Rps K G (cutV xs lo hi) (Yn ds lo hi):=by
 unfold cutV Yn
 rw [h.length]
 exact (h.drop _).take _
def Wx (d:D) (lo hi:Option Int):Option D :=
 match d with
 | .list ds=>some (.list (Yn ds lo hi))
 | .tuple ds=>some (.tuple (Yn ds lo hi))
 | .str z=>if z.length ≤ sizeLine then some (.str (cutS z lo hi)) else none
 | _=>none
def f3 (g:D → Option Int → Option Int → Option D) (fa:List Sl → Option (D × List Sl)) (fl fh:List Sl → Option (Option Int × List Sl)):List Sl → Option (D × List Sl):=fun δ=>(fa δ).bind fun p=>(fl p.2).bind fun q=>(fh q.2).bind fun r=>(g p.1 q.1 r.1).map fun z=>(z,r.2)
theorem QhC {g:D → Option Int → Option Int → Option D} {fa fl fh} {δ δ':List Sl} {z:D} (h:f3 g fa fl fh δ = some (z,δ')):∃ d δ1 lo δ2 hi,fa δ = some (d,δ1) ∧ fl δ1 = some (lo,δ2) ∧ fh δ2 = some (hi,δ') ∧ g d lo hi = some z:=by
 unfold f3 at h
 cases e1:fa δ with
 | none=>rw [e1] at h; cases h
 | some p =>
  obtain ⟨d,δ1⟩:=p
  rw [e1] at h
  simp only [Q1] at h
  cases e2:fl δ1 with
  | none=>rw [e2] at h; cases h
  | some q =>
   obtain ⟨lo,δ2⟩:=q
   rw [e2] at h
   simp only [Q1] at h
   cases e3:fh δ2 with
   | none=>rw [e3] at h; cases h
   | some q =>
    obtain ⟨hi,δ3⟩:=q
    rw [e3] at h
    simp only [Q1] at h
    cases e4:g d lo hi with
    | none=>rw [e4] at h; cases h
    | some w =>
     rw [e4] at h
     cases h
     exact ⟨d,δ1,lo,δ2,hi,rfl,e2,e3,e4⟩
def rSl3 (K:PySem.W.Frag):V → Option Int → Option Int → Hp → VK → Prop:=fun x lo hi H Q=>rSlL K x lo hi H Q ∨ rSlA K x lo hi H Q ∨ ∃ z,x = .str z ∧ z.length ≤ sizeLine ∧ Q (.str (cutS z lo hi)) H
theorem QgE {α:Type} (xs:List α) (lo hi:Option Int) (h:HT.sIx xs.length 0 lo = 0 ∧ HT.sIx xs.length xs.length hi = xs.length):Yn xs lo hi = xs:=by
 unfold Yn
 rw [h.1,h.2]
 simp
theorem sl_3:SlR X (rSl3 X.K):=sl_list.or (sl_tupA.or sl_str)
theorem Yl {a:Expr} {lo hi:Option Expr} {fa fl fh} {R M Ml Mh:List Nat} {p2:Pos} (ha:EV X a fa R M) (hl:OV X lo fl Ml) (hh:OV X hi fh Mh) (d1:∀ i ∈ R,i ∉ Ml:=by decide) (d2:∀ i ∈ R,i ∉ Mh:=by decide):EV X (.Subscript a (.Slice lo hi none p2) pos) (f3 Wx fa fl fh) [] (M ++ Ml ++ Mh):=by
 obtain ⟨t,p,q⟩:=ha
 obtain ⟨tl,pl,ql⟩:=hl
 obtain ⟨th,ph,qh⟩:=hh
 refine ⟨_,pe_slice sl_3 p pl ph,fun Y F H δ σ A S z δ' e Q k=>?_⟩
 obtain ⟨d,δ1,l,δ2,h,e1,e2,e3,e4⟩:=QhC e
 refine q Y F H δ σ A S d δ1 e1 _ fun x F1 H1 st1 S1 r1=>?_
 refine ql Y F1 H1 δ1 σ A S1 l δ2 e2 _ fun F2 H2 st2 S2=>?_
 refine qh Y F2 H2 δ2 σ A S2 h δ' e3 _ fun F3 H3 st3 S3=>?_
 have st:Stp A (M ++ Ml ++ Mh) F H F3 H3:=(st1.trans S1 st2).trans S2 st3
 have r3:Vw X.K F3 H3 A R x d:=(r1.step S1 st2 d1).step S2 st3 d2
 unfold Wx at e4
 split at e4
 ·cases e4
  obtain ⟨a',xs,rfl,h1,r⟩:=r3.list S3
  exact .inl ⟨a',xs,rfl,SqL.of h1,fun p hp=>k _ _ _ (Vj S3 st (Stp.laid S3 hp)) (S3.laid hp) (.inl (.lst upd_same ((r.cut l h).mono (Stp.laid (M:=[]) S3 hp).f)))⟩
 ·cases e4
  obtain ⟨a',xs,rfl,h0,h1,r⟩:=r3.tup S3
  refine .inr (.inl ⟨a',xs,rfl,h1,fun c=>?_,fun c p hp=>?_⟩)
  ·refine k _ F3 H3 st S3 (.inl ?_)
   rw [r.length] at c
   rw [QgE _ _ _ c]
   exact .tup h0 r
  ·exact k _ _ _ (Vj S3 st (Stp.laid S3 hp)) (S3.laid hp) (.inl (.tup (.inl (.inl upd_same)) ((r.cut l h).mono (Stp.laid (M:=[]) S3 hp).f)))
 ·split at e4
  ·rename_i hz
   cases e4
   exact .inr (.inr ⟨_,r3.str,hz,k _ F3 H3 st S3 (.inl (.str _))⟩)
  ·cases e4
 ·cases e4
theorem Q6F {K:PySem.W.Frag} {Y:Fx} {F H F1 H1:Hp} {δ1:List Sl} {σ:L2.St} {A:Nat → List Addr} {M:List Nat} {p:Addr} (st:Stp A M F H F1 H1) (S1:SR K Y F1 H1 δ1 σ A) (n:H1 p = none):H p = none:=by
 cases e5:H p with
 | none=>rfl
 | some o =>
  by_cases c:∃ i,p ∈ A i
  ·obtain ⟨i,hi⟩:=c
   exact absurd n (S1.isSome hi)
  ·have:=st.kp p o e5 fun i _ hi=>c ⟨i,hi⟩
   rw [n] at this
   cases this
def Q4i (X:Cx) (r:List V → Hp → VK → Prop) (g:List D → Option D):Prop :=
 ∀ (Y:Fx) (F H:Hp) (δ:List Sl) (σ:L2.St) (A:Nat → List Addr) (R:List Nat) (xs:List V) (ds:List D) (z:D),SR X.K Y F H δ σ A → Vws X.K F H A R xs ds → g ds = some z →
  ∀ Q:VK,(∀ v F' H',Stp A [] F H F' H' → SR X.K Y F' H' δ σ A → Rp X.K F' v z → Q v H') → r xs H Q
def Qal (X:Cx) (r:List V → Hp → VK → Prop) (g:List D → Option D):Prop :=
 ∀ (Y:Fx) (F H:Hp) (δ:List Sl) (σ:L2.St) (A:Nat → List Addr) (R:List Nat) (xs:List V) (ds:List D) (z:D),SR X.K Y F H δ σ A → Vws X.K F H A R xs ds → g ds = some z →
  ∀ Q:VK,(∀ p F' H',Stp A [] F H F' H' → SR X.K Y F' H' δ σ A → H p = none → F' p = none → Q0n X.K F' H' p z → Q (.ref p) H') → r xs H Q
def fA (g:List D → Option D) (f:List Sl → Option (List D × List Sl)):List Sl → Option (D × List Sl):=fun δ=>(f δ).bind fun p=>(g p.1).map fun z=>(z,p.2)
theorem Q5j {g:List D → Option D} {f:List Sl → Option (List D × List Sl)} {δ δ':List Sl} {z:D} (h:fA g f δ = some (z,δ')):∃ d,f δ = some (d,δ') ∧ g d = some z:=by
 unfold fA at h
 cases e1:f δ with
 | none=>rw [e1] at h; cases h
 | some p =>
  obtain ⟨d,δ1⟩:=p
  rw [e1] at h
  simp only [Q1] at h
  cases e3:g d with
  | none=>rw [e3] at h; cases h
  | some w =>
   rw [e3] at h
   cases h
   exact ⟨d,rfl,e3⟩
section
variable {x:Str} {id T:String} {e:Expr} {es:List Expr} {f:List Sl → Option (List D × List Sl)} {R M:List Nat} {r:List V → Hp → VK → Prop} {g:List D → Option D} {p:Pos}
structure Bn (X:Cx) (x:Str) (v:Value):Prop where
 gl:Gl X x
 mg:X.mg x = none
 bt:bootBuiltins x = some v
 nn:x ≠ "__name__"
 db:(x == ("__debug__":Str)) = false
theorem V4 (b:Bn X x (.builtin id)) (hc:CallR X (.builtin id) r) (hs:Q4i X r g) (ha:AV X (e :: es) f R M) (h1:starEach (e :: es) X.env = (false,eval e X.env) :: starEach es X.env:=by rfl) (h2:(backTo pos (starEach es X.env)).any (·.1) = false:=by rfl):EV X (.Call (.Name x p) (e :: es) [] pos) (fA g f) [] M:=by
 obtain ⟨t,pa,q⟩:=ha
 refine ⟨_,pe_callB hc b.gl b.mg b.bt pa b.nn b.db h1 h2,fun Y F H δ σ A S z δ' e Q k=>?_⟩
 obtain ⟨d,e1,e2⟩:=Q5j e
 refine q Y F H δ σ A S d δ' e1 _ fun vs F1 H1 st S1 r1=>?_
 exact hs Y F1 H1 δ' σ A _ vs d z S1 r1 e2 Q fun v F2 H2 st2 S2 r3=>k v F2 H2 (Vj S1 st st2) S2 (.inl r3)
theorem Q75 (b:Bn X x (.builtin id)) (hc:CallR X (.builtin id) r) (hs:Qal X r g) (ha:AV X (e :: es) f R M) (h1:starEach (e :: es) X.env = (false,eval e X.env) :: starEach es X.env:=by rfl) (h2:(backTo pos (starEach es X.env)).any (·.1) = false:=by rfl):NV X (.Call (.Name x p) (e :: es) [] pos) (fA g f) M:=by
 obtain ⟨t,pa,q⟩:=ha
 refine ⟨_,pe_callB hc b.gl b.mg b.bt pa b.nn b.db h1 h2,fun Y F H δ σ A S z δ' e Q k=>?_⟩
 obtain ⟨d,e1,e2⟩:=Q5j e
 refine q Y F H δ σ A S d δ' e1 _ fun vs F1 H1 st S1 r1=>?_
 exact hs Y F1 H1 δ' σ A _ vs d z S1 r1 e2 Q fun v F2 H2 st2 S2 n f3 r3=>k v F2 H2 (Vj S1 st st2) S2 (Q6F st S1 n) f3 r3
theorem K0 (b:Bn X x (.type T)) (hc:CallR X (.type T) r) (hs:Q4i X r g) (ha:AV X (e :: es) f R M) (h1:starEach (e :: es) X.env = (false,eval e X.env) :: starEach es X.env:=by rfl) (h2:(backTo pos (starEach es X.env)).any (·.1) = false:=by rfl):EV X (.Call (.Name x p) (e :: es) [] pos) (fA g f) [] M:=by
 obtain ⟨t,pa,q⟩:=ha
 refine ⟨_,pe_callTy hc b.gl b.mg b.bt pa b.nn b.db h1 h2,fun Y F H δ σ A S z δ' e Q k=>?_⟩
 obtain ⟨d,e1,e2⟩:=Q5j e
 refine q Y F H δ σ A S d δ' e1 _ fun vs F1 H1 st S1 r1=>?_
 exact hs Y F1 H1 δ' σ A _ vs d z S1 r1 e2 Q fun v F2 H2 st2 S2 r3=>k v F2 H2 (Vj S1 st st2) S2 (.inl r3)
theorem Qab (b:Bn X x (.type T)) (hc:CallR X (.type T) r) (hs:Qal X r g) (ha:AV X (e :: es) f R M) (h1:starEach (e :: es) X.env = (false,eval e X.env) :: starEach es X.env:=by rfl) (h2:(backTo pos (starEach es X.env)).any (·.1) = false:=by rfl):NV X (.Call (.Name x p) (e :: es) [] pos) (fA g f) M:=by
 obtain ⟨t,pa,q⟩:=ha
 refine ⟨_,pe_callTy hc b.gl b.mg b.bt pa b.nn b.db h1 h2,fun Y F H δ σ A S z δ' e Q k=>?_⟩
 obtain ⟨d,e1,e2⟩:=Q5j e
 refine q Y F H δ σ A S d δ' e1 _ fun vs F1 H1 st S1 r1=>?_
 exact hs Y F1 H1 δ' σ A _ vs d z S1 r1 e2 Q fun v F2 H2 st2 S2 n f3 r3=>k v F2 H2 (Vj S1 st st2) S2 (Q6F st S1 n) f3 r3
end
end
end Z
namespace Z
open PySem PySem.Spec PyProof.Rows L2
section
variable {X:Cx}
theorem Vws.one {K:PySem.W.Frag} {F H:Hp} {A:Nat → List Addr} {R:List Nat} {vs:List V} {d:D} (h:Vws K F H A R vs [d]):∃ v,vs = [v] ∧ Vw K F H A R v d:=by
 match vs,h with
 | [v],⟨h,_⟩=>exact ⟨v,rfl,h⟩
 | [],h=>exact h.elim
 | _ :: _ :: _,⟨_,h⟩=>exact h.elim
theorem Vws.two {K:PySem.W.Frag} {F H:Hp} {A:Nat → List Addr} {R:List Nat} {vs:List V} {d e:D} (h:Vws K F H A R vs [d,e]):∃ v u,vs = [v,u] ∧ Vw K F H A R v d ∧ Vw K F H A R u e:=by
 match vs,h with
 | v :: r,⟨h,h'⟩ =>
  obtain ⟨u,rfl,h2⟩:=Vws.one h'
  exact ⟨v,u,rfl,h,h2⟩
 | [],h=>exact h.elim
def g1 (g:D → Option D):List D → Option D
 | [d]=>g d
 | _=>none
def g2 (g:D → D → Option D):List D → Option D
 | [d,e]=>g d e
 | _=>none
theorem Q0g {g:D → Option D} {ds:List D} {z:D} (h:g1 g ds = some z):∃ d,ds = [d] ∧ g d = some z:=by
 unfold g1 at h
 split at h
 ·exact ⟨_,rfl,h⟩
 ·cases h
def Zp:D → Option D
 | .list ds=>some (.int ds.length)
 | .tuple ds=>some (.int ds.length)
 | .str z=>if z.length ≤ sizeLine then some (.int z.length) else none
 | _=>none
def Qkb (K:PySem.W.Frag):List V → Hp → VK → Prop:=fun xs H Q=>(∃ p ys,xs = [.ref p] ∧ (SqL K H p ys ∨ SqT K H p ys) ∧ Q (.int ys.length) H) ∨ ∃ z,xs = [.str z] ∧ z.length ≤ sizeLine ∧ Q (.int z.length) H
theorem Wq:CallR X (.builtin "len") (Qkb X.K):=call_len_seq.or call_len_str
theorem Ws:Q4i X (Qkb X.K) (g1 Zp):=by
 intro Y F H δ σ A R xs ds z S r hg Q k
 obtain ⟨d,rfl,hg'⟩:=Q0g hg
 clear hg
 have hg:=hg'
 obtain ⟨v,rfl,rv⟩:=r.one
 unfold Zp at hg
 split at hg
 ·cases hg
  obtain ⟨a,ys,rfl,h1,r1⟩:=rv.list S
  refine .inl ⟨a,ys,rfl,.inl (SqL.of h1),?_⟩
  rw [r1.length]
  exact k _ F H Stp.refl S (.int _)
 ·cases hg
  obtain ⟨a,ys,rfl,_,h1,r1⟩:=rv.tup S
  refine .inl ⟨a,ys,rfl,.inr h1,?_⟩
  rw [r1.length]
  exact k _ F H Stp.refl S (.int _)
 ·split at hg
  ·rename_i hz
   cases hg
   exact .inr ⟨_,by rw [rv.str],hz,k _ F H Stp.refl S (.int _)⟩
  ·cases hg
 ·cases hg
def Q8O:D → Option D
 | .list ds=>some (.list ds)
 | .tuple ds=>some (.list ds)
 | _=>none
def QaO:D → Option D
 | .list ds=>some (.tuple ds)
 | .tuple ds=>some (.tuple ds)
 | _=>none
def Qi0 (K:PySem.W.Frag):List V → Hp → VK → Prop:=fun xs H Q=>∃ p ys,xs = [.ref p] ∧ (SqL K H p ys ∨ SqT K H p ys) ∧ ∀ l,H l = none → Q (.ref l) (upd H l (.lst ys))
theorem QcT:CallR X (.type "list") (Qi0 X.K):=call_list_of
theorem Qd3:Qal X (Qi0 X.K) (g1 Q8O):=by
 intro Y F H δ σ A R xs ds z S r hg Q k
 obtain ⟨d,rfl,hg'⟩:=Q0g hg
 clear hg
 have hg:=hg'
 obtain ⟨v,rfl,rv⟩:=r.one
 unfold Q8O at hg
 split at hg
 ·cases hg
  obtain ⟨a,ys,rfl,h1,r1⟩:=rv.list S
  exact ⟨a,ys,rfl,.inl (SqL.of h1),fun p hp=>k p F _ (Stp.laidO hp) (S.laidO hp) hp (S.sub.free hp) ⟨_,upd_same,r1⟩⟩
 ·cases hg
  obtain ⟨a,ys,rfl,_,h1,r1⟩:=rv.tup S
  exact ⟨a,ys,rfl,.inr h1,fun p hp=>k p F _ (Stp.laidO hp) (S.laidO hp) hp (S.sub.free hp) ⟨_,upd_same,r1⟩⟩
 ·cases hg
def Qel (K:PySem.W.Frag):List V → Hp → VK → Prop:=fun xs H Q=>∃ p ys,xs = [.ref p] ∧ ((SqL K H p ys ∧ ∀ l,H l = none → Q (.ref l) (upd H l (.tup ys))) ∨ (SqT K H p ys ∧ Q (.ref p) H))
theorem Q3q:CallR X (.type "tuple") (Qel X.K):=call_tuple_of
theorem Q3m:Q4i X (Qel X.K) (g1 QaO):=by
 intro Y F H δ σ A R xs ds z S r hg Q k
 obtain ⟨d,rfl,hg'⟩:=Q0g hg
 clear hg
 have hg:=hg'
 obtain ⟨v,rfl,rv⟩:=r.one
 unfold QaO at hg
 split at hg
 ·cases hg
  obtain ⟨a,ys,rfl,h1,r1⟩:=rv.list S
  exact ⟨a,ys,rfl,.inl ⟨SqL.of h1,fun p hp=>k _ _ _ (Stp.laid S hp) (S.laid hp) (.tup (.inl (.inl upd_same)) (r1.mono (Stp.laid (M:=[]) S hp).f))⟩⟩
 ·cases hg
  obtain ⟨a,ys,rfl,h0,h1,r1⟩:=rv.tup S
  exact ⟨a,ys,rfl,.inr ⟨h1,k _ F H Stp.refl S (.tup h0 r1)⟩⟩
 ·cases hg
def QbK:D → Option D
 | .int i=>some (.int i)
 | .bool b=>some (.int (if b then 1 else 0))
 | _=>none
def Qku:List V → Hp → VK → Prop:=fun xs H Q=>(∃ i,xs = [.int i] ∧ Q (.int i) H) ∨ ∃ k,xs = [.bl k] ∧ Q (.int (if k then 1 else 0)) H
theorem Qa0:CallR X (.type "int") Qku:=call_int1
theorem Q92:Q4i X Qku (g1 QbK):=by
 intro Y F H δ σ A R xs ds z S r hg Q k
 obtain ⟨d,rfl,hg'⟩:=Q0g hg
 clear hg
 have hg:=hg'
 obtain ⟨v,rfl,rv⟩:=r.one
 unfold QbK at hg
 split at hg
 ·cases hg
  exact .inl ⟨_,by rw [rv.int],k _ F H Stp.refl S (.int _)⟩
 ·cases hg
  exact .inr ⟨_,by rw [rv.bl],k _ F H Stp.refl S (.int _)⟩
 ·cases hg
def Q6G:D → Option D
 | .int i=>if i.natAbs.log2 < 1920 then some (.str (toString i)) else none
 | _=>none
def Qi7:List V → Hp → VK → Prop:=fun xs H Q=>∃ i,xs = [.int i] ∧ i.natAbs.log2 < 1920 ∧ Q (.str (toString i)) H
theorem QbR:CallR X (.type "str") Qi7:=call_str_int
theorem Qcm:Q4i X Qi7 (g1 Q6G):=by
 intro Y F H δ σ A R xs ds z S r hg Q k
 obtain ⟨d,rfl,hg'⟩:=Q0g hg
 clear hg
 have hg:=hg'
 obtain ⟨v,rfl,rv⟩:=r.one
 unfold Q6G at hg
 split at hg
 ·split at hg
  ·rename_i hz
   cases hg
   exact ⟨_,by rw [rv.int],hz,k _ F H Stp.refl S (.str _)⟩
  ·cases hg
 ·cases hg
def Zo:List D → Option (List Int)
 | []=>some []
 | .int i :: r=>(Zo r).map (i :: ·)
 | _ :: _=>none
theorem Q6n:∀ {ds:List D} {ns:List Int},Zo ds = some ns → ds = ns.map Q0
 | [],_,h=>by cases h; rfl
 | d :: r,ns,h=>by
  cases d with
  | int i =>
   unfold Zo at h
   cases e:Zo r with
   | none=>rw [e] at h; cases h
   | some m =>
    rw [e] at h
    cases h
    rw [Q6n e]
    rfl
  | _=>cases h
theorem Q2F:∀ ns:List Int,Zo (ns.map Q0) = some ns
 | []=>rfl
 | n :: ns=>by
  show (Zo (ns.map Q0)).map (n :: ·) = _
  rw [Q2F ns]
  rfl
def Q9n:D → Option D
 | .list ds=>(Zo ds).map fun ns=>.int ns.sum
 | _=>none
theorem Q9C (hc:X.calm = true):CallR X (.builtin "sum") (rSum X.K):=cr_sum hc
theorem Qc5:Q4i X (rSum X.K) (g1 Q9n):=by
 intro Y F H δ σ A R xs ds z S r hg Q k
 obtain ⟨d,rfl,hg'⟩:=Q0g hg
 clear hg
 have hg:=hg'
 obtain ⟨v,rfl,rv⟩:=r.one
 unfold Q9n at hg
 split at hg
 ·rename_i ds'
  cases e:Zo ds' with
  | none=>rw [e] at hg; cases hg
  | some ns =>
   rw [e] at hg
   cases hg
   have e2:=Q6n e
   subst e2
   obtain ⟨a,ys,rfl,h1,r1⟩:=rv.list S
   have e3:=r1.ints
   subst e3
   exact ⟨a,ns,rfl,SqL.of h1,k _ F H Stp.refl S (.int _)⟩
 ·cases hg
def Q6l (d:D):Option D:=if d.showable && (!d.hasDict) && decide (d.shown.length ≤ sizeLine) && decide (d.depth ≤ 64) then some (.str d.shown) else none
def Qi4 (X:Cx):List V → Hp → VK → Prop:=fun xs H Q=>∃ x G d,xs = [x] ∧ Same G H ∧ Rp X.K G x d ∧ d.showable = true ∧ d.hasDict = false ∧ d.shown.length ≤ sizeLine ∧ d.depth ≤ 64 ∧ Q (.str d.shown) H
theorem Qdb (hg:X.A.guards = some []) (hu:X.A.units + 66 < cLine):CallR X (.builtin "repr") (Qi4 X):=by
 intro pins s σ H xs us Q I r h
 obtain ⟨x,G,d,rfl,sG,rp,h1,h2,h3,h4,q⟩:=h
 obtain ⟨u,rfl,rx⟩:=vals1 r
 obtain ⟨as,rd⟩:=Rp.reads I sG d x u rp rx
 have go:∀ a,u = .ref a → wpAny (model X.prog X.w) X.A (call (.builtin "repr") [u]) (EP X pins σ Q) X.xe s:=fun a e=>by
  subst e
  exact repr_of_reads' rd h1 (fun z=>by rw [h2] at z; cases z) hg (by omega) (fun _ _ e=>e) (fun h' t tk hk=>⟨.str d.shown,H,I.kept (t':=tk) hk,⟨_,rfl⟩,q⟩) h3
 cases rp with
 | int i =>
  obtain ⟨t,rfl⟩:=rx
  exact PySem.P.repr_of_int (by simpa [PyData.showable] using h1) ⟨.str _,H,I.tok _,⟨_,rfl⟩,q⟩
 | lst _ _=>exact go _ rx
 | tup _ _=>exact go _ rx
 | dic _ _=>exact go _ rx
 | non=>cases rx; exact PySem.P.repr_of_none ⟨.str _,H,I.tok _,⟨_,rfl⟩,q⟩
 | bl b=>cases rx; exact PySem.P.repr_of_bool ⟨.str _,H,I.tok _,⟨_,rfl⟩,q⟩
 | str z=>obtain ⟨t,rfl⟩:=rx; exact PySem.P.repr_of_str ⟨.str _,H,I.tok _,⟨_,rfl⟩,q⟩ h3
theorem QcH:Q4i X (Qi4 X) (g1 Q6l):=by
 intro Y F H δ σ A R xs ds z S r hg Q k
 obtain ⟨d,rfl,hg'⟩:=Q0g hg
 obtain ⟨v,rfl,rv⟩:=r.one
 unfold Q6l at hg'
 split at hg'
 ·rename_i c
  cases hg'
  simp only [Q5,decide_eq_true_eq,Ji] at c
  exact ⟨v,_,d,rfl,Q2S S,rv.ex S,c.1.1.1,c.1.1.2,c.1.2,c.2,k _ F H Stp.refl S (.str _)⟩
 ·cases hg'
theorem QaL {K:PySem.W.Frag} {G:Hp}:∀ {us:List Value} {ds:List D},PySem.W.EachIs (fun u d=>∃ x,RelV x u ∧ Rp K G x d) us ds → ∃ xs,Vals xs us ∧ Rps K G xs ds
 | _,_,.nil=>⟨[],.nil,.nil⟩
 | _,_,.cons ⟨x,h1,h2⟩ t=>by
  obtain ⟨xs,q1,q2⟩:=QaL t
  exact ⟨x :: xs,.cons h1 q1,.cons h2 q2⟩
theorem Qb1 {K:PySem.W.Frag} {G:Hp}:∀ {xs:List V} {us:List Value} {ds:List D},Vals xs us → Rps K G xs ds → PySem.W.EachIs (fun u d=>∃ x,RelV x u ∧ Rp K G x d) us ds
 | _,_,_,.nil,.nil=>.nil
 | _,_,_,.cons h1 t1,.cons h2 t2=>.cons ⟨_,h1,h2⟩ (Qb1 t1 t2)
def Q4J (ds:List D):Bool:=ds.all fun d=>ds.all fun e=>PySem.W.alike d e
def Qi3:List D → Bool
 | [.tuple []]=>true
 | _=>false
def Q6s (ds:List D):Bool:=(ds.all fun d=>match d with | .tuple (_ :: _)=>true | _=>false) || ((ds.all fun d=>match d with | .int _=>true | .str _=>true | .bool _=>true | _=>false) || Qi3 ds)
theorem QeZ {ds:List D} (h:Q6s ds = true):PySem.W.Sortable ds ∨ ds = [.tuple []]:=by
 unfold Q6s at h
 rw [Jg,Jg] at h
 rcases h with h | h | h
 ·refine .inl (.inl fun d hd=>?_)
  have:=Qe.mp h d hd
  split at this
  ·exact ⟨_,_,rfl⟩
  ·cases this
 ·refine .inl (.inr fun d hd=>?_)
  have:=Qe.mp h d hd
  split at this
  ·exact ⟨by simp,by simp⟩
  ·exact ⟨by simp,by simp⟩
  ·exact ⟨by simp,by simp⟩
  ·cases this
 ·unfold Qi3 at h
  split at h
  ·exact .inr rfl
  ·cases h
theorem QbZ {prog:Program} {w:World} {A:Around} {s:Shared} {v:Value} {as:List Addr} (hu:A.units < cLine) (r:Reads s.heap v (.tuple []) as):PySem.W.SortsAt prog w A s (PySem.W.dataKind s.heap [.tuple []]) [v]:=by
 have hal:PySem.W.AllAlike [.tuple []]:=fun d hd d' hd'=>by
  rw [Qr] at hd hd'
  subst hd hd'
  rfl
 refine ⟨fun u hu=>?_,tuples' false,?_,fun h2=>absurd h2 (by simp)⟩
 ·rw [Qr] at hu
  subst hu
  exact ⟨_,PySem.W.dataKind_some hal (Qr.mpr rfl) r⟩
 ·intro E x y a b Q ha hb hq
  obtain ⟨d,as,hd,ra,rfl⟩:=PySem.W.dataKind_inv ha
  obtain ⟨d',as',hd',rb,rfl⟩:=PySem.W.dataKind_inv hb
  rw [Qr] at hd hd'
  subst hd hd'
  have hq':Q (PySem.W.dataLt (.tuple []) (.tuple [])) s:=hq
  cases ra with
  | @tuple l o xs n _ _ h1 h2 h3 h4 =>
   cases rb with
   | @tuple l' o' xs' n' _ _ k1 k2 k3 k4 =>
    have n1:xs.size = ([]:List D).length:=by simpa using SeqAt.ReadsAll.length _ _ _ h4
    have n2:xs'.size = ([]:List D).length:=by simpa using SeqAt.ReadsAll.length _ _ _ k4
    have n3:A.units + min (Jc []) (Jc []) < cLine:=hu
    exact PySem.W.kat_lt h1 h3 k1 k3 (PySem.W.katLex_alike [] [] 0 _ _ _ _ h4 k4 rfl n3 (fun hb=>nomatch hb) (by rw [n1,n2]) hq')
def Qbf (ds:List D):List D:=ds.mergeSort (PySem.W.dataLe false id)
def Qai:D → Option D
 | .list ds=>if Q4J ds && Q6s ds && ds.all (fun d=>decide (d.depth ≤ 64)) then some (.list (Qbf ds)) else none
 | _=>none
def Qf5 (X:Cx):List V → Hp → VK → Prop:=fun vs H Q=>∃ (a:Addr) (xs:List V) (G:Hp) (ds:List D),vs = [V.ref a] ∧ H a = some (.lst xs) ∧ Same G H ∧ Rps X.K G xs ds ∧ Q4J ds = true ∧ Q6s ds = true ∧ (∀ d ∈ ds,d.depth ≤ 64) ∧
 ∀ (ys:List V) (p:Addr),H p = none → Rps X.K G ys (Qbf ds) → Q (.ref p) (upd H p (.lst ys))
theorem Qb2 (hu:X.A.units + 67 < cLine):CallR X (.builtin "sorted") (Qf5 X):=by
 intro pins s σ H vs us Q I r h
 obtain ⟨a,xs,G,ds,rfl,hs,sG,rp,h1,h2,h3,q⟩:=h
 obtain ⟨its,rv,hl,hz⟩:=I.list (SqL.of hs)
 rw [Vals.ref1 r]
 have hE:=Qb1 rv rp
 have hal:PySem.W.AllAlike (ds.map id):=by
  rw [X9]
  intro d hd d' hd'
  exact Qe.mp (Qe.mp h1 d hd) d' hd'
 have er:=hE.mono fun u d ⟨x,q1,q2⟩=>Rp.reads I sG d x u q2 q1
 have hdp:∀ b ∈ ds,X.A.units + 2 + (id b).depth < cLine:=fun b hb=>by
  have:=h3 b hb
  show X.A.units + 2 + b.depth < cLine
  omega
 have hzl:ds.length ≤ sizeLine:=by rw [← rp.length]; exact hz
 suffices hend:∀ out:List Value,out.length = ds.length → PySem.W.EachIs (fun u d=>∃ x,RelV x u ∧ Rp X.K G x d) out (ds.mergeSort (PySem.W.dataLe false id)) → EP X pins σ Q (.ref (s.heap.objs.size + 1)) { s with heap:=sortedAll s.heap its (List.toArray out) } by
  rcases QeZ h2 with h2 | h2
  ·exact PySem.W.sorted_data (R:=fun u d=>∃ x,RelV x u ∧ Rp X.K G x d) (enc:=id) (bs:=ds) hl.isList hE er hal (by rw [X9]; exact h2) hzl hdp hend
  ·subst h2
   have hl1:its.length = 1:=hE.length
   obtain ⟨v0,rfl⟩:=List.length_eq_one_iff.mp hl1
   have er':PySem.W.EachIs (fun v b=>∃ as,Reads (PySem.W.sortingHeap (PySem.W.copyHeap s.heap [v0]) (s.heap.objs.size + 1) [v0]) v (id b) as) [v0] [.tuple []]:=er.mono fun _ _ ⟨as,r⟩=>⟨as,PyProof.Rows.Reads.keeps (fun _ _=>PySem.W.sorting_copy_old) r⟩
   cases er' with
   | cons r0 _ =>
    obtain ⟨as,r0⟩:=r0
    have er2:PySem.W.EachIs (fun v b=>∃ as,Reads (PySem.W.sortingHeap (PySem.W.copyHeap s.heap [v0]) (s.heap.objs.size + 1) [v0]) v (id b) as) [v0] [.tuple []]:=.cons ⟨as,r0⟩ .nil
    have S:PySem.W.SortsAt X.prog X.w X.A.in1.in1 { s with heap:=PySem.W.sortingHeap (PySem.W.copyHeap s.heap [v0]) (s.heap.objs.size + 1) [v0] } (PySem.W.dataKind (PySem.W.sortingHeap (PySem.W.copyHeap s.heap [v0]) (s.heap.objs.size + 1) [v0]) (([.tuple []]:List D).map id)) [v0]:=by
     rw [X9]
     exact QbZ (A:=X.A.in1.in1) (s:={ s with heap:=PySem.W.sortingHeap (PySem.W.copyHeap s.heap [v0]) (s.heap.objs.size + 1) [v0] }) (by show X.A.units + 2 < cLine; omega) r0
    have hd:=PySem.W.sortVals_data false hE er2 hal
    have hlen:=PySem.W.sortVals_length (κ:=PySem.W.dataKind (PySem.W.sortingHeap (PySem.W.copyHeap s.heap [v0]) (s.heap.objs.size + 1) [v0]) (([.tuple []]:List D).map id)) (vs:=[v0]) (ks:=[v0]) false rfl
    have hf:=hend _ hlen hd
    exact PySem.W.sorted_vals (κ:=PySem.W.dataKind (PySem.W.sortingHeap (PySem.W.copyHeap s.heap [v0]) (s.heap.objs.size + 1) [v0]) (([.tuple []]:List D).map id)) hl.isList S (by rw [hE.length]; exact hzl) hf
 intro out ho eo
 obtain ⟨ys,q1,q2⟩:=QaL eo
 obtain ⟨ep,he'⟩:=PyProof.Rows.sortedAll_at s.heap its (List.toArray out)
 have hlen:ys.length ≤ sizeLine:=by rw [q1.length,ho,← rp.length]; exact hz
 exact ⟨.ref _,upd H (s.heap.objs.size + 1) (.lst ys),I.laid (t':=s.toks) (fun _ _=>PyProof.Rows.sortedAll_old) (Nat.le_succ _) ⟨hlen,out,ep,q1,he'⟩,rfl,q ys _ (I.hok.fresh (Nat.le_succ _)) q2⟩
theorem Qdc:Qal X (Qf5 X) (g1 Qai):=by
 intro Y F H δ σ A R xs ds z S r hg Q k
 obtain ⟨d,rfl,hg'⟩:=Q0g hg
 obtain ⟨v,rfl,rv⟩:=r.one
 clear hg
 unfold Qai at hg'
 split at hg'
 ·rename_i ds'
  split at hg'
  ·rename_i c
   cases hg'
   simp only [Q5,Qe,decide_eq_true_eq] at c
   obtain ⟨a,ys,rfl,h1,r1⟩:=rv.list S
   exact ⟨a,ys,F,ds',rfl,h1,S.sub,r1,c.1.1,c.1.2,c.2,fun zs p hp r2=>k p F _ (Stp.laidO hp) (S.laidO hp) hp (S.sub.free hp) ⟨_,upd_same,r2⟩⟩
  ·cases hg'
 ·cases hg'
end
end Z
namespace Z
open PySem PySem.Spec PyProof.Rows L2
def uA (A:Nat → List Addr) (i:Nat) (l:List Addr):Nat → List Addr:=fun j=>if j = i then l else A j
theorem Wn {A:Nat → List Addr} {i:Nat} {l:List Addr}:uA A i l i = l:=if_pos rfl
theorem Kl {A:Nat → List Addr} {i j:Nat} {l:List Addr} (h:j ≠ i):uA A i l j = A j:=if_neg h
section
variable {K:PySem.W.Frag} {Y:Fx} {F F' H H':Hp} {δ:List Sl} {σ:L2.St} {A:Nat → List Addr} {i:Nat}
theorem Qbc {v:Option V} (h:i < σ.length):jn (σ.set i v)[i]? = v:=by
 rw [Qo h]
 rfl
theorem Q60 {v:Option V} {j:Nat} (h:j ≠ i):jn (σ.set i v)[j]? = jn σ[j]?:=by
 rw [Qk (Ne.symm h)]
theorem QeF {v:Option V} {fs:List (Str × Nat)} (h:∀ q ∈ fs,q.2 ≠ i):Q4U (σ.set i v) fs = Q4U σ fs:=by
 unfold Q4U
 induction fs with
 | nil=>rfl
 | cons q r ih =>
  rw [Jh,Jh,Q60 (h q Q7),ih fun x hx=>h x (Q6 _ hx)]
theorem QkG {io:Nat → Bool} {fs:List (Str × Nat)} (h:∀ q ∈ fs,io q.2 = true) (hio:io i = false):∀ q ∈ fs,q.2 ≠ i:=fun q hq z=>by
 have:=h q hq
 rw [z,hio] at this
 cases this
theorem SR.put (S:SR K Y F H δ σ A) (hi:i < δ.length) (hio:Y.io i = false) {s:Sl} {v:Option V} {l:List Addr} (hob:∀ c fs,s ≠ Sl.ob c fs) (h:Q0Z K F H s v l) (hF:∀ a ∈ l,F a = none) (hY:∀ a ∈ l,Y.H0 a = none) (hA:∀ a ∈ l,∀ j,j ≠ i → a ∉ A j) :
  SR K Y F H (δ.set i s) (σ.set i v) (uA A i l):=by
 have hs:i < σ.length:=by rw [← S.len]; exact hi
 refine ⟨by rw [Qv,Qv]; exact S.len,fun j t e=>?_,fun j e=>?_,fun j k a h1 h2=>?_,fun j a h1=>?_,fun j a h1 h2=>?_,S.sub,fun j h1=>?_,S.ioA,S.kp,S.nw,S.f0,S.lio,fun j c fs e=>?_,fun j hj=>?_⟩
 ·by_cases c:j = i
  ·subst c
   rw [Qo hi] at e
   cases e
   rw [Qbc hs,Wn]
   exact h
  ·rw [Qk (Ne.symm c)] at e
   rw [Q60 c,Kl c]
   exact S.slot j t e
 ·by_cases c:j = i
  ·subst c
   rw [Qo hi] at e
   cases e
  ·rw [Qk (Ne.symm c)] at e
   rw [Kl c]
   exact S.out j e
 ·by_cases c:j = i
  ·by_cases c2:k = i
   ·rw [c,c2]
   ·subst c
    rw [Wn] at h1
    rw [Kl c2] at h2
    exact absurd h2 (hA a h1 k c2)
  ·by_cases c2:k = i
   ·subst c2
    rw [Wn] at h2
    rw [Kl c] at h1
    exact absurd h1 (hA a h2 j c)
   ·rw [Kl c] at h1
    rw [Kl c2] at h2
    exact S.dis j k a h1 h2
 ·by_cases c:j = i
  ·subst c
   rw [Wn] at h1
   exact hF a h1
  ·rw [Kl c] at h1
   exact S.hid j a h1
 ·by_cases c:j = i
  ·subst c
   rw [Wn] at h1
   exact hY a h1
  ·rw [Kl c] at h1
   exact S.new j a h1 h2
 ·by_cases c:j = i
  ·subst c
   rw [S.nlt hio] at h1
   cases h1
  ·rw [Qk (Ne.symm c),Kl c]
   exact S.fix j h1
 ·by_cases c2:j = i
  ·subst c2
   rw [Qo hi] at e
   exact absurd (Ja.inj e) (hob c fs)
  ·rw [Qk (Ne.symm c2)] at e
   rw [Q60 c2]
   obtain ⟨h1,h2⟩:=S.ob j c fs e
   refine ⟨h1,fun p C dx fvs e1 e2=>?_⟩
   rw [QeF (QkG h1 (S.nvt hio))]
   exact h2 p C dx fvs e1 e2
 ·rw [Qk fun z=>by rw [← z,hio] at hj; cases hj]
  exact S.vno j hj
theorem SR.putFz (S:SR K Y F H δ σ A) (hi:i < δ.length) (hio:Y.io i = false) {d:D} {v:V} (h:Rp K F v d):SR K Y F H (δ.set i (.fz d)) (σ.set i (some v)) (uA A i []) :=
 S.put hi hio (fun _ _=>by simp) (show Q0Z K F H (.fz d) (some v) [] from ⟨rfl,v,rfl,h⟩) (by simp) (by simp) (by simp)
theorem SR.putNo (S:SR K Y F H δ σ A) (hi:i < δ.length) (hio:Y.io i = false) {v:Option V}:SR K Y F H (δ.set i .no) (σ.set i v) (uA A i []) :=
 S.put hi hio (fun _ _=>by simp) (show Q0Z K F H .no v [] from rfl) (by simp) (by simp) (by simp)
theorem SR.putOw (S:SR K Y F H δ σ A) (hi:i < δ.length) (hio:Y.io i = false) {d:D} {p:Addr} (hp:Y.H0 p = none) (hF:F p = none) (hA:∀ j,p ∉ A j) (h:Q0n K F H p d):SR K Y F H (δ.set i (.ow d)) (σ.set i (some (.ref p))) (uA A i [p]) :=
 S.put hi hio (fun _ _=>by simp) (show Q0Z K F H (.ow d) (some (.ref p)) [p] from ⟨p,rfl,rfl,h⟩) (fun a ha=>by simp at ha; subst ha; exact hF) (fun a ha=>by simp at ha; subst ha; exact hp) (fun a ha j _=>by simp at ha; subst ha; exact hA j)
theorem SR.fresh0 (S:SR K Y F H δ σ A) {p:Addr} (hp:H p = none):Y.H0 p = none:=by
 cases e:Y.H0 p with
 | none=>rfl
 | some o =>
  by_cases c:∃ i,Y.lt i = true ∧ p ∈ Y.A0 i
  ·obtain ⟨i,hi,hA⟩:=c
   rw [← (S.fix i hi).2] at hA
   exact absurd hp (S.isSome hA)
  ·have:=S.kp p o e fun i hi z=>c ⟨i,hi,z⟩
   rw [hp] at this
   cases this
theorem SR.vno_set (S:SR K Y F H δ σ A) (hi:i < δ.length) {s:Sl} (h:s ≠ Sl.no):∀ (j:Nat),Y.io j = true → (δ.set i s)[j]? ≠ some Sl.no:=fun j hj=>by
 by_cases c:j = i
 ·subst c
  rw [Qo hi]
  exact fun z=>h (Ja.inj z)
 ·rw [Qk (Ne.symm c)]
  exact S.vno j hj
theorem SR.ob_set (S:SR K Y F H δ σ A) (hi:i < δ.length) {s:Sl} (hob:∀ c fs,s ≠ Sl.ob c fs) (k:∀ j,j ≠ i → ∀ a ∈ A j,H' a = H a):∀ (j:Nat) (c:Str) (fs:List (Str × Nat)),(δ.set i s)[j]? = some (Sl.ob c fs) → ObR Y.vt H' (jn σ[j]?) σ fs:=fun j c fs e=>by
 by_cases c2:j = i
 ·subst c2
  rw [Qo hi] at e
  exact absurd (Ja.inj e) (hob c fs)
 ·rw [Qk (Ne.symm c2)] at e
  obtain ⟨h1,h2⟩:=S.ob j c fs e
  refine ⟨h1,fun p C dx fvs e1 e2=>h2 p C dx fvs e1 ?_⟩
  rw [← k j c2 p (S.obp e e1)]
  exact e2
theorem SR.chg (S:SR K Y F H δ σ A) {d d':D} {p:Addr} {o:HO} (hd:δ[i]? = some (.ow d)) (hA:A i = [p]) (h:Q0n K F (upd H p o) p d'):SR K Y F (upd H p o) (δ.set i (.ow d')) σ A:=by
 have hi:i < δ.length:=(Q8.mp hd).1
 obtain ⟨p',e1,e2,o1⟩:=S.slot i _ hd
 have hpA:p ∈ A i:=by rw [hA]; simp
 have ep:p' = p:=by
  rw [hA] at e2
  exact (Xd.inj e2).1.symm
 subst ep
 refine ⟨by rw [Qv]; exact S.len,fun j t e=>?_,fun j e=>?_,S.dis,S.hid,S.new,fun b x e=>?_,S.fix,S.ioA,fun a x e n=>?_,S.nw,S.f0,S.lio,S.ob_set hi (fun _ _=>by simp) fun j c a ha=>upd_ne fun z=>c (S.dis j i a ha (by rw [z]; exact hpA)),S.vno_set hi (by simp)⟩
 ·by_cases c:j = i
  ·subst c
   rw [Qo hi] at e
   cases e
   exact ⟨p',e1,hA,h⟩
  ·rw [Qk (Ne.symm c)] at e
   refine (S.slot j t e).mono (Same.refl _) fun a ha=>upd_ne fun z=>?_
   subst z
   exact c (S.dis j i _ ha hpA)
 ·by_cases c:j = i
  ·subst c
   rw [Qo hi] at e
   cases e
  ·rw [Qk (Ne.symm c)] at e
   exact S.out j e
 ·have q:=S.sub b x e
  rw [upd_ne]
  ·exact q
  ·intro z
   subst z
   rw [S.hid i _ hpA] at e
   cases e
 ·rw [upd_ne]
  ·exact S.kp a x e n
  ·intro z
   subst z
   cases hio:Y.lt i with
   | false =>
    rw [S.new i _ hpA hio] at e
    cases e
   | true =>
    have:=(S.fix i hio).2
    rw [this] at hpA
    exact n i hio hpA
theorem Stp.chg {M:List Nat} {p:Addr} {o:HO} (hM:i ∈ M) (hA:p ∈ A i):Stp A M F H F (upd H p o) :=
 ⟨Same.refl _,fun a e n=>absurd e n,fun a x e n=>by
  rw [upd_ne]
  ·exact e
  ·intro z
   subst z
   exact n i hM hA⟩
def frz (i:Nat) (δ:List Sl):List Sl:=match δ[i]? with
 | some (.ow d)=>δ.set i (.fz d)
 | _=>δ
theorem SR.frzL (S:SR K Y F H δ σ A) (hio:Y.io i = false) {d:D} (hd:δ[i]? = some (.ow d)) (hl:∀ ds,d ≠ .dict ds):∃ F' A',Same F F' ∧ SR K Y F' H (δ.set i (.fz d)) σ A':=by
 ·have hd:=hd
  have hi:i < δ.length:=(Q8.mp hd).1
  obtain ⟨p,e1,e2,o⟩:=S.slot i _ hd
  have o:Q8t K F H p d:=by
   cases d with
   | list ds=>exact o
   | dict ds=>exact absurd rfl (hl ds)
   | _=>exact o.elim
  obtain ⟨u,hu⟩:∃ u,H p = some u:=by
   exact o.there.some
  have hpA:p ∈ A i:=by rw [e2]; simp
  have hF:F p = none:=S.hid i p hpA
  have sF:Same F (upd F p u):=fun b x e=>by rw [upd_ne (ne_of_none e hF)]; exact e
  have other:∀ j a,j ≠ i → a ∈ A j → a ≠ p:=fun j a c ha z=>by subst z; exact c (S.dis j i _ ha hpA)
  refine ⟨upd F p u,uA A i [],sF,⟨by rw [Qv]; exact S.len,fun j t e=>?_,fun j e=>?_,fun j k a h1 h2=>?_,fun j a h1=>?_,fun j a h1 h2=>?_,fun b x e=>?_,fun j h1=>?_,S.ioA,S.kp,fun a e n=>?_,S.f0.trans sF,S.lio,S.ob_set hi (fun _ _=>by simp) (fun _ _ _ _=>rfl),S.vno_set hi (by simp)⟩⟩
  ·by_cases c:j = i
   ·subst c
    rw [Qo hi] at e
    cases e
    rw [Wn]
    exact ⟨rfl,_,e1,Q5W o sF (by rw [upd_same,hu])⟩
   ·rw [Qk (Ne.symm c)] at e
    rw [Kl c]
    exact (S.slot j t e).mono sF fun _ _=>rfl
  ·by_cases c:j = i
   ·subst c
    rw [Wn]
   ·rw [Qk (Ne.symm c)] at e
    rw [Kl c]
    exact S.out j e
  ·by_cases c:j = i
   ·subst c
    rw [Wn] at h1
    simp at h1
   ·by_cases c2:k = i
    ·subst c2
     rw [Wn] at h2
     simp at h2
    ·rw [Kl c] at h1
     rw [Kl c2] at h2
     exact S.dis j k a h1 h2
  ·by_cases c:j = i
   ·subst c
    rw [Wn] at h1
    simp at h1
   ·rw [Kl c] at h1
    rw [upd_ne (other j a c h1)]
    exact S.hid j a h1
  ·by_cases c:j = i
   ·subst c
    rw [Wn] at h1
    simp at h1
   ·rw [Kl c] at h1
    exact S.new j a h1 h2
  ·by_cases c:b = p
   ·subst c
    rw [upd_same] at e
    cases e
    exact hu
   ·rw [upd_ne c] at e
    exact S.sub _ _ e
  ·have c:j ≠ i:=fun z=>by subst z; rw [S.nlt hio] at h1; cases h1
   rw [Kl c]
   exact S.fix j h1
  ·by_cases c:a = p
   ·subst c
    exact S.new i a hpA (S.nlt hio)
   ·rw [upd_ne c] at n
    exact S.nw a e n
theorem SR.frzK (S:SR K Y F H δ σ A) (hio:Y.io i = false) {ds:List (D × D)} (hd:δ[i]? = some (.lk ds)):∃ F' A',Same F F' ∧ SR K Y F' H (δ.set i (.fz (.dict ds))) σ A':=by
 ·have hd:=hd
  have hi:i < δ.length:=(Q8.mp hd).1
  obtain ⟨p,e1,e2,o⟩:=S.slot i _ hd
  obtain ⟨u,hu⟩:∃ u,H p = some u:=by
   exact o.there.some
  have hpA:p ∈ A i:=by rw [e2]; simp
  have hF:F p = none:=S.hid i p hpA
  have sF:Same F (upd F p u):=fun b x e=>by rw [upd_ne (ne_of_none e hF)]; exact e
  have other:∀ j a,j ≠ i → a ∈ A j → a ≠ p:=fun j a c ha z=>by subst z; exact c (S.dis j i _ ha hpA)
  refine ⟨upd F p u,uA A i [],sF,⟨by rw [Qv]; exact S.len,fun j t e=>?_,fun j e=>?_,fun j k a h1 h2=>?_,fun j a h1=>?_,fun j a h1 h2=>?_,fun b x e=>?_,fun j h1=>?_,S.ioA,S.kp,fun a e n=>?_,S.f0.trans sF,S.lio,S.ob_set hi (fun _ _=>by simp) (fun _ _ _ _=>rfl),S.vno_set hi (by simp)⟩⟩
  ·by_cases c:j = i
   ·subst c
    rw [Qo hi] at e
    cases e
    rw [Wn]
    exact ⟨rfl,_,e1,Q5W o sF (by rw [upd_same,hu])⟩
   ·rw [Qk (Ne.symm c)] at e
    rw [Kl c]
    exact (S.slot j t e).mono sF fun _ _=>rfl
  ·by_cases c:j = i
   ·subst c
    rw [Wn]
   ·rw [Qk (Ne.symm c)] at e
    rw [Kl c]
    exact S.out j e
  ·by_cases c:j = i
   ·subst c
    rw [Wn] at h1
    simp at h1
   ·by_cases c2:k = i
    ·subst c2
     rw [Wn] at h2
     simp at h2
    ·rw [Kl c] at h1
     rw [Kl c2] at h2
     exact S.dis j k a h1 h2
  ·by_cases c:j = i
   ·subst c
    rw [Wn] at h1
    simp at h1
   ·rw [Kl c] at h1
    rw [upd_ne (other j a c h1)]
    exact S.hid j a h1
  ·by_cases c:j = i
   ·subst c
    rw [Wn] at h1
    simp at h1
   ·rw [Kl c] at h1
    exact S.new j a h1 h2
  ·by_cases c:b = p
   ·subst c
    rw [upd_same] at e
    cases e
    exact hu
   ·rw [upd_ne c] at e
    exact S.sub _ _ e
  ·have c:j ≠ i:=fun z=>by subst z; rw [S.nlt hio] at h1; cases h1
   rw [Kl c]
   exact S.fix j h1
  ·by_cases c:a = p
   ·subst c
    exact S.new i a hpA (S.nlt hio)
   ·rw [upd_ne c] at n
    exact S.nw a e n
theorem SR.lock (S:SR K Y F H δ σ A) {ds:List (D × D)} (hd:δ[i]? = some (.ow (.dict ds))):∃ p u,A i = [p] ∧ H p = some u ∧ Mut (some u) ∧ ∀ od,SR K Y F (upd H p (.frz od u)) (δ.set i (.lk ds)) σ A:=by
 have hi:i < δ.length:=(Q8.mp hd).1
 obtain ⟨p,e1,e2,kvs,h1,h2⟩:=S.slot i _ hd
 have hpA:p ∈ A i:=by rw [e2]; simp
 refine ⟨p,_,e2,h1,trivial,fun od=>?_⟩
 refine ⟨by rw [Qv]; exact S.len,fun j t e=>?_,fun j e=>?_,S.dis,S.hid,S.new,fun b x e=>?_,S.fix,S.ioA,fun a x e n=>?_,S.nw,S.f0,S.lio,S.ob_set hi (fun _ _=>by simp) fun j c a ha=>upd_ne fun z=>c (S.dis j i a ha (by rw [z]; exact hpA)),S.vno_set hi (by simp)⟩
 ·by_cases c:j = i
  ·subst c
   rw [Qo hi] at e
   cases e
   exact ⟨p,e1,e2,od,kvs,upd_same,h2⟩
  ·rw [Qk (Ne.symm c)] at e
   refine (S.slot j t e).mono (Same.refl _) fun a ha=>upd_ne fun z=>?_
   subst z
   exact c (S.dis j i _ ha hpA)
 ·by_cases c:j = i
  ·subst c
   rw [Qo hi] at e
   cases e
  ·rw [Qk (Ne.symm c)] at e
   exact S.out j e
 ·have q:=S.sub b x e
  rw [upd_ne]
  ·exact q
  ·intro z
   subst z
   rw [S.hid i _ hpA] at e
   cases e
 ·rw [upd_ne]
  ·exact S.kp a x e n
  ·intro z
   subst z
   cases hio:Y.lt i with
   | false =>
    rw [S.new i _ hpA hio] at e
    cases e
   | true =>
    have:=(S.fix i hio).2
    rw [this] at hpA
    exact n i hio hpA
theorem SR.unlock (S:SR K Y F H δ σ A) {ds:List (D × D)} {p:Addr} {od:Obj} {u:HO} (hd:δ[i]? = some (.lk ds)) (hA:A i = [p]) (hu:H p = some (.frz od u)):SR K Y F (upd H p u) (δ.set i (.ow (.dict ds))) σ A:=by
 have hi:i < δ.length:=(Q8.mp hd).1
 obtain ⟨p',e1,e2,o',kvs,h1,h2⟩:=S.slot i _ hd
 have ep:p' = p:=by
  rw [hA] at e2
  exact (Xd.inj e2).1.symm
 subst ep
 have hpA:p' ∈ A i:=by rw [hA]; simp
 rw [h1] at hu
 cases hu
 refine ⟨by rw [Qv]; exact S.len,fun j t e=>?_,fun j e=>?_,S.dis,S.hid,S.new,fun b x e=>?_,S.fix,S.ioA,fun a x e n=>?_,S.nw,S.f0,S.lio,S.ob_set hi (fun _ _=>by simp) fun j c a ha=>upd_ne fun z=>c (S.dis j i a ha (by rw [z]; exact hpA)),S.vno_set hi (by simp)⟩
 ·by_cases c:j = i
  ·subst c
   rw [Qo hi] at e
   cases e
   exact ⟨p',e1,hA,kvs,upd_same,h2⟩
  ·rw [Qk (Ne.symm c)] at e
   refine (S.slot j t e).mono (Same.refl _) fun a ha=>upd_ne fun z=>?_
   subst z
   exact c (S.dis j i _ ha hpA)
 ·by_cases c:j = i
  ·subst c
   rw [Qo hi] at e
   cases e
  ·rw [Qk (Ne.symm c)] at e
   exact S.out j e
 ·have q:=S.sub b x e
  rw [upd_ne]
  ·exact q
  ·intro z
   subst z
   rw [S.hid i _ hpA] at e
   cases e
 ·rw [upd_ne]
  ·exact S.kp a x e n
  ·intro z
   subst z
   cases hio:Y.lt i with
   | false =>
    rw [S.new i _ hpA hio] at e
    cases e
   | true =>
    have:=(S.fix i hio).2
    rw [this] at hpA
    exact n i hio hpA
theorem SR.wipe1 (S:SR K Y F H δ σ A) (hi:i < δ.length) (hio:Y.io i = false):SR K Y F H (δ.set i .no) σ (uA A i []):=by
 have w:=S.putNo (v:=jn σ[i]?) hi hio
 have e:σ.set i (jn σ[i]?) = σ:=by
  have hs:i < σ.length:=by rw [← S.len]; exact hi
  apply List.ext_getElem?
  intro j
  by_cases c:j = i
  ·subst c
   rw [Qo hs,Qa hs]
   rfl
  ·rw [Qk (Ne.symm c)]
 rwa [e] at w
end
inductive Out where
 | nx (δ:List Sl)
 | ct (δ:List Sl)
 | rt (d:D) (δ:List Sl)
def Qkp (K:PySem.W.Frag) (Y:Fx) (fr:Fr) (F H:Hp) (A:Nat → List Addr) (v:V) (d:D):Prop :=
 match fr with
 | .n=>Rp K F v d
 | .t=>PlT K F v d
 | .l=>∃ p,v = .ref p ∧ Y.H0 p = none ∧ F p = none ∧ (∀ i,Y.io i = true → p ∉ A i) ∧ Q0n K F H p d
 | .p=>∃ a p q d0 d1,v = .ref a ∧ d = .tuple [d0,d1] ∧ H a = some (.tup [.ref p,.ref q]) ∧ p ≠ q ∧ (Y.H0 p = none ∧ F p = none ∧ (∀ i,Y.io i = true → p ∉ A i) ∧ Q0n K F H p d0) ∧ Y.H0 q = none ∧ F q = none ∧ (∀ i,Y.io i = true → q ∉ A i) ∧ Q0n K F H q d1
 | .s j=>d = .none ∧ Y.io j = true ∧ ∃ p,v = .ref p ∧ A j = [p]
def Qe8 (K:PySem.W.Frag) (Y:Fx) (fr:Fr) (F:Hp) (D:Ends):Out → Prop
 | .nx δ'=>∀ σ' F' H' A',Same F F' → SR K Y F' H' δ' σ' A' → D.nx σ' H'
 | .ct δ'=>∀ σ' F' H' A',Same F F' → SR K Y F' H' δ' σ' A' → D.ct σ' H'
 | .rt d δ'=>∀ v σ' F' H' A',Same F F' → SR K Y F' H' δ' σ' A' → Qkp K Y fr F' H' A' v d → D.rt v H'
def SV (X:Cx) (io:Iom) (fr:Fr) (st:Stmt) (g:List Sl → Option Out):Prop :=
 ∃ t,PS X st t ∧ ∀ (Y:Fx) (F H:Hp) (δ:List Sl) (σ:L2.St) (A:Nat → List Addr),Y.io = io → SR X.K Y F H δ σ A → ∀ (o:Out),g δ = some o → ∀ D:Ends,Qe8 X.K Y fr F D o → t D σ H
def BV (X:Cx) (io:Iom) (fr:Fr) (st:List Stmt) (g:List Sl → Option Out):Prop :=
 ∃ t,PSs X st t ∧ ∀ (Y:Fx) (F H:Hp) (δ:List Sl) (σ:L2.St) (A:Nat → List Addr),Y.io = io → SR X.K Y F H δ σ A → ∀ (o:Out),g δ = some o → ∀ D:Ends,Qe8 X.K Y fr F D o → t D σ H
theorem Qe8.mono {K:PySem.W.Frag} {Y:Fx} {fr:Fr} {F F':Hp} {D:Ends} {o:Out} (h:Qe8 K Y fr F D o) (s:Same F F'):Qe8 K Y fr F' D o:=by
 cases o with
 | nx δ=>exact fun σ' F1 H' A' s1=>h σ' F1 H' A' (s.trans s1)
 | ct δ=>exact fun σ' F1 H' A' s1=>h σ' F1 H' A' (s.trans s1)
 | rt d δ=>exact fun v σ' F1 H' A' s1=>h v σ' F1 H' A' (s.trans s1)
section
variable {X:Cx} {io:Iom} {fr:Fr} {st:Stmt} {rest:List Stmt} {pos:Pos} {g g':List Sl → Option Out}
def Xu (g g':List Sl → Option Out):List Sl → Option Out:=fun δ=>(g δ).bind fun o=>match o with
 | .nx δ1=>g' δ1
 | .ct δ1=>some (.ct δ1)
 | .rt d δ1=>some (.rt d δ1)
def Ym:List Sl → Option Out:=fun δ=>some (.nx δ)
theorem Y6:BV X io fr [] Ym:=by
 refine ⟨_,pss_nil,fun Y F H δ σ A _ S o e D k=>?_⟩
 cases e
 exact k σ F H A (Same.refl _) S
theorem Xo (h1:SV X io fr st g) (h2:BV X io fr rest g'):BV X io fr (st :: rest) (Xu g g'):=by
 obtain ⟨t,p,q⟩:=h1
 obtain ⟨t2,p2,q2⟩:=h2
 refine ⟨_,pss_cons p p2,fun Y F H δ σ A hY S o e D k=>?_⟩
 unfold Xu at e
 cases e1:g δ with
 | none=>rw [e1] at e; cases e
 | some o1 =>
  rw [e1] at e
  refine q Y F H δ σ A hY S o1 e1 _ ?_
  cases o1 with
  | nx δ1=>exact fun σ' F' H' A' s S'=>q2 Y F' H' δ1 σ' A' hY S' o e D (k.mono s)
  | ct δ1=>cases e; exact k
  | rt d δ1=>cases e; exact k
def Qhp (i:Nat) (g:List Sl → Option Out):List Sl → Option Out:=fun δ=>g (frz i δ)
theorem QiN {i:Nat} (hio:io i = false) (h:SV X io fr st g):SV X io fr st (Qhp i g):=by
 obtain ⟨t,p,q⟩:=h
 refine ⟨_,QiG p (QfW p),fun Y F H δ σ A hY S o e D k=>?_⟩
 have hio':Y.io i = false:=by rw [hY]; exact hio
 unfold Qhp Z.frz at e
 split at e
 ·rename_i d hd
  by_cases c:∃ ds,d = .dict ds
  ·obtain ⟨ds,rfl⟩:=c
   obtain ⟨p,u,hA,hu,mu,w⟩:=S.lock hd
   refine .inr ⟨p,u,hu,mu,fun od=>?_⟩
   have hi:i < δ.length:=(Q8.mp hd).1
   obtain ⟨F',A',s,S'⟩:=(w od).frzK hio' (Qo hi)
   rw [List.set_set] at S'
   exact q Y F' _ _ σ A' hY S' o e D (k.mono s)
  ·obtain ⟨F',A',s,S'⟩:=S.frzL hio' hd fun ds z=>c ⟨ds,z⟩
   exact .inl (q Y F' H _ σ A' hY S' o e D (k.mono s))
 ·exact .inl (q Y F H _ σ A hY S o e D k)
def Vo (vs:List Nat) (δ:List Sl):List Sl:=vs.foldr (fun j δ=>δ.set j .no) δ
theorem SR.wipeAll {K:PySem.W.Frag} {Y:Fx} {F H:Hp} {σ:L2.St}:∀ {vs:List Nat} {δ:List Sl} {A:Nat → List Addr},SR K Y F H δ σ A → (∀ i ∈ vs,Y.io i = false) → ∃ A',SR K Y F H (Vo vs δ) σ A'
 | [],δ,A,S,_=>⟨A,S⟩
 | i :: vs,δ,A,S,h=>by
  obtain ⟨A',S'⟩:=SR.wipeAll (vs:=vs) S fun j hj=>h j (Q6 _ hj)
  by_cases c:i < (Vo vs δ).length
  ·exact ⟨_,S'.wipe1 c (h i Q7)⟩
  ·refine ⟨A',?_⟩
   show SR K Y F H ((Vo vs δ).set i .no) σ A'
   rw [List.set_eq_of_length_le (by omega)]
   exact S'
def Q63 (vs:List Nat) (g:List Sl → Option Out):List Sl → Option Out:=fun δ=>g (Vo vs δ)
theorem Q1w {vs:List Nat} (hio:vs.all (fun i=>!io i) = true) (h:SV X io fr st g):SV X io fr st (Q63 vs g):=by
 obtain ⟨t,p,q⟩:=h
 refine ⟨_,p,fun Y F H δ σ A hY S o e D k=>?_⟩
 obtain ⟨A',S'⟩:=S.wipeAll (vs:=vs) fun i hi=>by
  rw [hY]
  have:=Qe.mp hio i hi
  simpa using this
 exact q Y F H _ σ A' hY S' o e D k
def Q08 (vs:List Nat):List Sl → Option Out:=fun δ=>some (.nx (Vo vs δ))
def QbI (vs:List Nat):List Sl → Option Out:=fun δ=>some (.ct (Vo vs δ))
theorem Zb {vs:List Nat} (hio:vs.all (fun i=>!io i) = true):BV X io fr [] (Q08 vs):=by
 refine ⟨_,pss_nil,fun Y F H δ σ A hY S o e D k=>?_⟩
 obtain ⟨A',S'⟩:=S.wipeAll (vs:=vs) fun i hi=>by
  rw [hY]
  have:=Qe.mp hio i hi
  simpa using this
 cases e
 exact k σ F H A' (Same.refl _) S'
def Vs (i:Nat) (f:List Sl → Option (D × List Sl)):List Sl → Option Out:=fun δ=>(f δ).bind fun p=>if i < p.2.length then some (.nx (p.2.set i (.fz p.1))) else none
def Q1c (i:Nat) (f:List Sl → Option (D × List Sl)):List Sl → Option Out:=fun δ=>(f δ).bind fun p=>if i < p.2.length then some (.nx (p.2.set i (.ow p.1))) else none
structure Tg (X:Cx) (i:Nat) (x:Str):Prop where
 nd:X.N.Nodup
 at_:X.N[i]? = some x
 loc:Loc X.env.scope x
 fn:X.fn x = true ∨ X.env.scope.names.lookup x = some .local
theorem V0 {i:Nat} {x:Str} {e:Expr} {f} {M:List Nat} {pos':Pos} (hio:io i = false) (T:Tg X i x) (h:EV X e f [] M) (hs:swapsWith e (some (.Name x pos')) pos.line X.env = pure false:=by rfl):SV X io fr (.Assign [.Name x pos'] e pos) (Vs i f):=by
 obtain ⟨t,p,q⟩:=h
 refine ⟨_,ps_set T.nd T.at_ T.loc p hs T.fn,fun Y F H δ σ A hY S o e D k=>?_⟩
 unfold Vs at e
 cases e1:f δ with
 | none=>rw [e1] at e; cases e
 | some p =>
  obtain ⟨d,δ1⟩:=p
  rw [e1] at e
  simp only [Q1] at e
  split at e
  ·rename_i hi
   cases e
   refine q Y F H δ σ A S d δ1 e1 _ fun v F1 H1 st S1 r=>?_
   exact k _ F1 H1 _ st.f (S1.putFz hi (by rw [hY]; exact hio) r.nil)
  ·cases e
theorem Q2z {i:Nat} {x:Str} {e:Expr} {f} {M:List Nat} {pos':Pos} (hio:io i = false) (T:Tg X i x) (h:NV X e f M) (hs:swapsWith e (some (.Name x pos')) pos.line X.env = pure false:=by rfl):SV X io fr (.Assign [.Name x pos'] e pos) (Q1c i f):=by
 obtain ⟨t,p,q⟩:=h
 refine ⟨_,ps_set T.nd T.at_ T.loc p hs T.fn,fun Y F H δ σ A hY S o e D k=>?_⟩
 unfold Q1c at e
 cases e1:f δ with
 | none=>rw [e1] at e; cases e
 | some p =>
  obtain ⟨d,δ1⟩:=p
  rw [e1] at e
  simp only [Q1] at e
  split at e
  ·rename_i hi
   cases e
   refine q Y F H δ σ A S d δ1 e1 _ fun p F1 H1 st S1 n hF r=>?_
   exact k _ F1 H1 _ st.f (S1.putOw hi (by rw [hY]; exact hio) (S.fresh0 n) hF (fun j hj=>S.isSome hj n) r)
  ·cases e
def Vp (f:List Sl → Option (D × List Sl)):List Sl → Option Out:=fun δ=>(f δ).map fun p=>.rt p.1 p.2
theorem Yv {e:Expr} {f} {M:List Nat} (h:EV X e f [] M):SV X io .n (.Return (some e) pos) (Vp f):=by
 obtain ⟨t,p,q⟩:=h
 refine ⟨_,ps_ret p,fun Y F H δ σ A hY S o e D k=>?_⟩
 unfold Vp at e
 cases e1:f δ with
 | none=>rw [e1] at e; cases e
 | some p =>
  obtain ⟨d,δ1⟩:=p
  rw [e1] at e
  cases e
  exact q Y F H δ σ A S d δ1 e1 _ fun v F1 H1 st S1 r=>k v σ F1 H1 A st.f S1 r.nil
theorem QgR {e:Expr} {f} {M:List Nat} (h:NV X e f M):SV X io .l (.Return (some e) pos) (Vp f):=by
 obtain ⟨t,p,q⟩:=h
 refine ⟨_,ps_ret p,fun Y F H δ σ A hY S o e D k=>?_⟩
 unfold Vp at e
 cases e1:f δ with
 | none=>rw [e1] at e; cases e
 | some p =>
  obtain ⟨d,δ1⟩:=p
  rw [e1] at e
  cases e
  exact q Y F H δ σ A S d δ1 e1 _ fun p F1 H1 st S1 n hF r=>k _ σ F1 H1 A st.f S1 ⟨p,rfl,S.fresh0 n,hF,fun i _ z=>S.isSome z n,r⟩
def Q8R (i:Nat):List Sl → Option Out:=fun δ=>match δ[i]? with
 | some (.ow d)=>some (.rt d δ)
 | _=>none
theorem Qdg {i:Nat} {x:Str} {p':Pos} (hio:io i = false) (hN:X.N[i]? = some x) (hv:Vis X.env.scope x) (h1:(x == ("__debug__":Str)) = false) (h2:(x == ("__classdict__":Str)) = false):SV X io .l (.Return (some (.Name x p')) pos) (Q8R i):=by
 refine ⟨_,ps_ret (pe_var hN hv h1 h2),fun Y F H δ σ A hY S o e D k=>?_⟩
 unfold Q8R at e
 split at e
 ·rename_i d hd
  cases e
  obtain ⟨p,e2,e3,r⟩:=S.slot i _ hd
  have hp:p ∈ A i:=by rw [e3]; simp
  refine ⟨_,Wh e2,k _ σ F H A (Same.refl _) S ⟨p,rfl,S.new i p hp (S.nlt (by rw [hY]; exact hio)),S.hid i p hp,fun j hj z=>?_,r⟩⟩
  have:=S.dis i j p hp z
  subst this
  rw [hY,hio] at hj
  cases hj
 ·cases e
def Q7I (f:List Sl → Option (D × List Sl)):List Sl → Option Out:=fun δ=>(f δ).map fun p=>.nx p.2
theorem Q9I {e:Expr} {f} {R M:List Nat} (h:EV X e f R M) (hs:swapsWith e none pos.line X.env = pure false:=by rfl):SV X io fr (.Expr e pos) (Q7I f):=by
 obtain ⟨t,p,q⟩:=h
 refine ⟨_,ps_expr p hs,fun Y F H δ σ A hY S o e D k=>?_⟩
 unfold Q7I at e
 cases e1:f δ with
 | none=>rw [e1] at e; cases e
 | some p =>
  obtain ⟨d,δ1⟩:=p
  rw [e1] at e
  cases e
  exact q Y F H δ σ A S d δ1 e1 _ fun v F1 H1 st S1 r=>k σ F1 H1 A st.f S1
theorem QfF {vs:List Nat} (hio:vs.all (fun i=>!io i) = true):SV X io fr (.Continue pos) (QbI vs):=by
 refine ⟨_,ps_continue,fun Y F H δ σ A hY S o e D k=>?_⟩
 obtain ⟨A',S'⟩:=S.wipeAll (vs:=vs) fun i hi=>by
  rw [hY]
  have:=Qe.mp hio i hi
  simpa using this
 cases e
 exact k σ F H A' (Same.refl _) S'
def sIf (c:List Sl → Option (Bool × List Sl)) (g g':List Sl → Option Out):List Sl → Option Out:=fun δ=>(c δ).bind fun p=>match p.1 with | true=>g p.2 | false=>g' p.2
theorem Wp {c:Expr} {a b:List Stmt} {gc} {M:List Nat} (hc:TV X c gc M) (ha:BV X io fr a g) (hb:BV X io fr b g'):SV X io fr (.If c a b pos) (sIf gc g g'):=by
 obtain ⟨t,p,q⟩:=hc
 obtain ⟨ta,pa,qa⟩:=ha
 obtain ⟨tb,pb,qb⟩:=hb
 refine ⟨_,ps_if p pa pb,fun Y F H δ σ A hY S o e D k=>?_⟩
 unfold sIf at e
 cases e1:gc δ with
 | none=>rw [e1] at e; cases e
 | some p =>
  obtain ⟨b1,δ1⟩:=p
  rw [e1] at e
  refine q Y F H δ σ A S b1 δ1 e1 _ fun F1 H1 st S1=>?_
  cases b1 with
  | true=>exact iteT (qa Y F1 H1 δ1 σ A hY S1 o e D (k.mono st.f))
  | false=>exact iteF (qb Y F1 H1 δ1 σ A hY S1 o e D (k.mono st.f))
end
end Z
namespace Z
open PySem PySem.Spec PyProof.Rows L2
section
variable {X:Cx} {pos:Pos}
structure Mc (X:Cx) (o:Expr) (name:Str) (apos:Pos) (e:Expr) (es:List Expr) (cpos:Pos):Prop where
 base:attributeBase o name X.env (eval o X.env) = eval o X.env
 few:((backTo cpos (starEach (e :: es) X.env)).all (fun x=>!x.1) && (backToKw cpos (keywordEach [] X.env)).all (fun x=>x.1.isSome) && decide ((e :: es).length + ([]:List Keyword).length + (if ([]:List Keyword).isEmpty then 0 else 1) < 30)) = true
 line:(apos.endLine == cpos.line) = true
 star:starEach (e :: es) X.env = (false,eval e X.env) :: starEach es X.env
 plain:(backTo cpos (starEach es X.env)).any (·.1) = false
structure Mc0 (X:Cx) (o:Expr) (name:Str) (apos:Pos) (cpos:Pos):Prop where
 base:attributeBase o name X.env (eval o X.env) = eval o X.env
 line:(apos.endLine == cpos.line) = true
structure Nm (X:Cx) (i:Nat) (x:Str):Prop where
 at_:X.N[i]? = some x
 vis:Vis X.env.scope x
 db:(x == ("__debug__":Str)) = false
 cd:(x == ("__classdict__":Str)) = false
theorem Nm.pe {i:Nat} {x:Str} (n:Nm X i x):PE X (.Name x pos) (tVar i):=pe_var n.at_ n.vis n.db n.cd
def ownL (i:Nat) (δ:List Sl):Option (List D):=match δ[i]? with
 | some (.ow (.list ds))=>some ds
 | _=>none
theorem Q44 {i:Nat} {δ:List Sl} {ds:List D} (h:ownL i δ = some ds):δ[i]? = some (.ow (.list ds)):=by
 unfold ownL at h
 split at h
 ·rename_i e; cases h; exact e
 ·cases h
theorem SR.ownL {K:PySem.W.Frag} {Y:Fx} {F H:Hp} {δ:List Sl} {σ:L2.St} {A:Nat → List Addr} {i:Nat} {ds:List D} (S:SR K Y F H δ σ A) (h:Z.ownL i δ = some ds):∃ p xs,σ[i]? = some (some (.ref p)) ∧ A i = [p] ∧ H p = some (.lst xs) ∧ Rps K F xs ds:=by
 obtain ⟨p,e1,e2,xs,h1,h2⟩:=S.slot i _ (Q44 h)
 exact ⟨p,xs,Wh e1,e2,h1,h2⟩
def Qf4 (i:Nat) (f:List Sl → Option (D × List Sl)):List Sl → Option (D × List Sl):=fun δ=>(ownL i δ).bind fun _=>(f δ).bind fun p=>(ownL i p.2).bind fun ds=>if ds.length < sizeLine then some (.none,p.2.set i (.ow (.list (ds ++ [p.1])))) else none
theorem tyL {K:PySem.W.Frag} {H:Hp} {p:Addr} {xs:List V} (h:H p = some (.lst xs)):tyV K "list" (.ref p) H:=.inl ⟨rfl,xs,SqL.of h⟩
theorem Qjt {i:Nat} {x:Str} {e:Expr} {f} {M:List Nat} {p1 apos:Pos} (n:Nm X i x) (h:EV X e f [] M) (m:Mc X (.Name x p1) "append" apos e [] pos):EV X (.Call (.Attribute (.Name x p1) "append" apos) [e] [] pos) (Qf4 i f) [] (i :: M):=by
 obtain ⟨t,p,q⟩:=h
 refine ⟨_,pe_bm PySem.F.plainAttrs_list PySem.F.slot_list_append PySem.F.type_list_append mt_append n.pe (pa_cons p pa_nil m.star) m.base m.few m.line m.star m.plain,fun Y F H δ σ A S z δ' e Q k=>?_⟩
 unfold Qf4 at e
 cases e0:ownL i δ with
 | none=>rw [e0] at e; cases e
 | some ds0 =>
  rw [e0] at e
  simp only [Q1] at e
  cases e1:f δ with
  | none=>rw [e1] at e; cases e
  | some w =>
   obtain ⟨d,δ1⟩:=w
   rw [e1] at e
   simp only [Q1] at e
   cases e2:ownL i δ1 with
   | none=>rw [e2] at e; cases e
   | some ds =>
    rw [e2] at e
    simp only [Q1] at e
    split at e
    ·rename_i hz
     cases e
     obtain ⟨a,ys,s1,_,s2,_⟩:=S.ownL e0
     refine ⟨.ref a,s1,tyL s2,?_⟩
     refine q Y F H δ σ A S d δ1 e1 _ fun v F1 H1 st S1 r=>?_
     obtain ⟨b,xs,s3,s4,s5,s6⟩:=S1.ownL e2
     have:b = a:=by
      rw [s1] at s3
      cases s3
      rfl
     subst this
     refine ⟨b,xs,v,rfl,rfl,s5,by rw [s6.length]; exact hz,?_⟩
     have hO:Q0n X.K F1 (upd H1 b (.lst (xs ++ [v]))) b (.list (ds ++ [d])):=⟨_,upd_same,s6.append (.cons r.nil .nil)⟩
     refine k _ F1 _ ?_ (S1.chg (Q44 e2) s4 hO) (.inl .non)
     exact ((st.mono (fun j hj=>Q6 i hj)).trans S1 (Stp.chg (i:=i) (M:=[i]) (by simp) (by rw [s4]; simp))).mono fun j hj=>by
      rcases Qc.mp hj with z | z
      ·exact z
      ·simp at z; subst z; exact Q7
    ·cases e
def Qew (i:Nat) (f:List Sl → Option (D × List Sl)):List Sl → Option (D × List Sl):=fun δ=>(ownL i δ).bind fun _=>(f δ).bind fun p=>match p.1 with
 | .list es=>(ownL i p.2).bind fun ds=>if ds.length + es.length ≤ sizeLine then some (.none,p.2.set i (.ow (.list (ds ++ es)))) else none
 | _=>none
theorem Qit {i:Nat} {x:Str} {e:Expr} {f} {R M:List Nat} {p1 apos:Pos} (n:Nm X i x) (h:EV X e f R M) (m:Mc X (.Name x p1) "extend" apos e [] pos):EV X (.Call (.Attribute (.Name x p1) "extend" apos) [e] [] pos) (Qew i f) [] (i :: M):=by
 obtain ⟨t,p,q⟩:=h
 refine ⟨_,pe_bm PySem.F.plainAttrs_list PySem.F.slot_list_extend PySem.F.type_list_extend mt_extend n.pe (pa_cons p pa_nil m.star) m.base m.few m.line m.star m.plain,fun Y F H δ σ A S z δ' e Q k=>?_⟩
 unfold Qew at e
 cases e0:ownL i δ with
 | none=>rw [e0] at e; cases e
 | some ds0 =>
  rw [e0] at e
  simp only [Q1] at e
  cases e1:f δ with
  | none=>rw [e1] at e; cases e
  | some w =>
   obtain ⟨d,δ1⟩:=w
   rw [e1] at e
   simp only [Q1] at e
   split at e
   ·rename_i es
    cases e2:ownL i δ1 with
    | none=>rw [e2] at e; cases e
    | some ds =>
     rw [e2] at e
     simp only [Q1] at e
     split at e
     ·rename_i hz
      cases e
      obtain ⟨a,ys,s1,_,s2,_⟩:=S.ownL e0
      refine ⟨.ref a,s1,tyL s2,?_⟩
      refine q Y F H δ σ A S _ δ1 e1 _ fun v F1 H1 st S1 r=>?_
      obtain ⟨c,zs,rfl,h1,h2⟩:=r.list S1
      obtain ⟨b,xs,s3,s4,s5,s6⟩:=S1.ownL e2
      have:b = a:=by
       rw [s1] at s3
       cases s3
       rfl
      subst this
      refine ⟨b,c,xs,zs,rfl,rfl,s5,h1,by rw [s6.length,h2.length]; exact hz,?_⟩
      have hO:Q0n X.K F1 (upd H1 b (.lst (xs ++ zs))) b (.list (ds ++ es)):=⟨_,upd_same,s6.append h2⟩
      refine k _ F1 _ ?_ (S1.chg (Q44 e2) s4 hO) (.inl .non)
      exact ((st.mono (fun j hj=>Q6 i hj)).trans S1 (Stp.chg (i:=i) (M:=[i]) (by simp) (by rw [s4]; simp))).mono fun j hj=>by
       rcases Qc.mp hj with z | z
       ·exact z
       ·simp at z; subst z; exact Q7
     ·cases e
   ·cases e
theorem Rps.dropLast {K:PySem.W.Frag} {G:Hp} {xs:List V} {ds:List D} (h:Rps K G xs ds):Rps K G xs.dropLast ds.dropLast:=by
 rw [List.dropLast_eq_take,List.dropLast_eq_take,h.length]
 exact h.take _
def Q69 (i:Nat) (f:List Sl → Option (D × List Sl)):List Sl → Option (D × List Sl):=fun δ=>(ownL i δ).bind fun _=>(f δ).bind fun p=>match p.1 with
 | .int n=>(ownL i p.2).bind fun ds=>if 0 ≤ n ∧ ds.length ≤ sizeLine then (ds[n.toNat]?).map fun d=>(d,p.2.set i (.ow (.list (ds.eraseIdx n.toNat)))) else none
 | _=>none
theorem Qax {i:Nat} {x:Str} {e:Expr} {f} {R M:List Nat} {p1 apos:Pos} (n:Nm X i x) (h:EV X e f R M) (m:Mc X (.Name x p1) "pop" apos e [] pos):EV X (.Call (.Attribute (.Name x p1) "pop" apos) [e] [] pos) (Q69 i f) [] (i :: M):=by
 obtain ⟨t,p,q⟩:=h
 refine ⟨_,pe_bm PySem.F.plainAttrs_list PySem.F.slot_list_pop PySem.F.type_list_pop mt_popAt n.pe (pa_cons p pa_nil m.star) m.base m.few m.line m.star m.plain,fun Y F H δ σ A S z δ' e Q k=>?_⟩
 unfold Q69 at e
 cases e0:ownL i δ with
 | none=>rw [e0] at e; cases e
 | some ds0 =>
  rw [e0] at e
  simp only [Q1] at e
  cases e1:f δ with
  | none=>rw [e1] at e; cases e
  | some w =>
   obtain ⟨d,δ1⟩:=w
   rw [e1] at e
   simp only [Q1] at e
   split at e
   ·rename_i nn
    cases e2:ownL i δ1 with
    | none=>rw [e2] at e; cases e
    | some ds =>
     rw [e2] at e
     simp only [Q1] at e
     split at e
     ·rename_i hz
      cases e3:ds[nn.toNat]? with
      | none=>rw [e3] at e; cases e
      | some dd =>
       rw [e3] at e
       cases e
       obtain ⟨a,ys,s1,_,s2,_⟩:=S.ownL e0
       refine ⟨.ref a,s1,tyL s2,?_⟩
       refine q Y F H δ σ A S _ δ1 e1 _ fun v F1 H1 st S1 r=>?_
       obtain ⟨b,xs,s3,s4,s5,s6⟩:=S1.ownL e2
       have:b = a:=by
        rw [s1] at s3
        cases s3
        rfl
       subst this
       obtain ⟨v0,v1,v2⟩:=s6.get e3
       have hlt:nn.toNat < ds.length:=(Q8.mp e3).1
       have hsz:=sizeLine_eq
       refine ⟨b,xs,nn,nn.toNat,v0,rfl,by rw [r.int],s5,by omega,by omega,?_,v1,?_⟩
       ·rw [s6.length]
        exact seqIndex_of hz.1 (by omega)
       ·have hO:Q0n X.K F1 (upd H1 b (.lst (xs.eraseIdx nn.toNat))) b (.list (ds.eraseIdx nn.toNat)):=⟨_,upd_same,s6.eraseIdx _⟩
        refine k _ F1 _ ?_ (S1.chg (Q44 e2) s4 hO) (.inl v2)
        exact ((st.mono (fun j hj=>Q6 i hj)).trans S1 (Stp.chg (i:=i) (M:=[i]) (by simp) (by rw [s4]; simp))).mono fun j hj=>by
         rcases Qc.mp hj with z | z
         ·exact z
         ·simp at z; subst z; exact Q7
     ·cases e
   ·cases e
def QdE (ds:List (D × D)) (k:Key) (d:D):List (D × D):=if ds.any (fun p=>decide (Kk p.1 = some k)) then ds.map (fun p=>if Kk p.1 = some k then (p.1,d) else p) else ds ++ [(Q7m k,d)]
theorem RpK.length {K:PySem.W.Frag} {G:Hp}:∀ {kvs:List (Key × V)} {ds:List (D × D)},RpK K G kvs ds → kvs.length = ds.length
 | _,_,.nil=>rfl
 | _,_,.cons _ r=>congrArg (· + 1) r.length
theorem RpK.append {K:PySem.W.Frag} {G:Hp}:∀ {kvs lws:List (Key × V)} {ds es:List (D × D)},RpK K G kvs ds → RpK K G lws es → RpK K G (kvs ++ lws) (ds ++ es)
 | _,_,_,_,.nil,s=>s
 | _,_,_,_,.cons h r,s=>.cons h (r.append s)
theorem RpK.any {K:PySem.W.Frag} {G:Hp} (k:Key):∀ {kvs:List (Key × V)} {ds:List (D × D)},RpK K G kvs ds → (kvs.any fun kv=>decide (kv.1 = k)) = ds.any fun p=>decide (Kk p.1 = some k)
 | _,_,.nil=>rfl
 | _,_,.cons (k:=k0) h r=>by
  rw [List.any_cons,List.any_cons,r.any k,Q0x]
  by_cases e:k0 = k <;> simp [e]
theorem RpK.repl {K:PySem.W.Frag} {G:Hp} (k:Key) {v:V} {d:D} (hv:Rp K G v d):∀ {kvs:List (Key × V)} {ds:List (D × D)},RpK K G kvs ds → RpK K G (kvs.map fun kv=>if kv.1 = k then (kv.1,v) else kv) (ds.map fun p=>if Kk p.1 = some k then (p.1,d) else p)
 | _,_,.nil=>.nil
 | _,_,.cons (k:=k0) h r=>by
  rw [Qq,Qq]
  simp only [Q0x]
  by_cases e:k0 = k
  ·rw [if_pos e,if_pos (congrArg some e)]
   exact .cons hv (r.repl k hv)
  ·rw [if_neg e,if_neg fun z=>e (Ja.inj z)]
   exact .cons h (r.repl k hv)
theorem RpK.put {K:PySem.W.Frag} {G:Hp} {kvs:List (Key × V)} {ds:List (D × D)} (k:Key) {v:V} {d:D} (h:RpK K G kvs ds) (hv:Rp K G v d):RpK K G (putK kvs k v) (QdE ds k d):=by
 unfold putK QdE
 rw [← h.any k]
 split
 ·exact h.repl k hv
 ·exact h.append (.cons hv .nil)
def Q7c (d k v:D):Option D:=match d with
 | .list ds=>match k with
  | .int i=>(ixN ds.length i).map fun j=>.list (ds.set j v)
  | _=>none
 | .dict ds=>(Kk k).bind fun k=>if ds.length < sizeLine then some (.dict (QdE ds k v)) else none
 | _=>none
def Qi9:TSet:=fun o i v H Q=>rSetL o i v H Q ∨ ∃ a H',o = .ref a ∧ DPut H a i v H' ∧ Q H'
theorem QhT (hu:X.A.units + 1 < cLine):PSet X Qi9:=by
 intro pins s σ H o i v ov iv u Q I ro ri rv h
 rcases h with h | ⟨a,H',rfl,g,q⟩
 ·exact set_list pins s σ H o i v ov iv u Q I ro ri rv h
 ·cases ro
  exact d_setItem hu I g ri rv fun s' I'=>⟨H',I',q⟩
theorem QeJ {K:PySem.W.Frag} {Y:Fx} {F H:Hp} {δ:List Sl} {σ:L2.St} {A:Nat → List Addr} {p:Addr} {d k v d':D} {y z:V} (S:SR K Y F H δ σ A) (o:Q0n K F H p d) (ry:Rp K F y k ∨ ∃ R,Vw K F H A R y k) (rz:Rp K F z v) (h:Q7c d k v = some d') :
  ∃ u,Q0n K F (upd H p u) p d' ∧ ∀ Q:Hp → Prop,Q (upd H p u) → Qi9 (.ref p) y z H Q:=by
 have ek:∀ kk,Kk k = some kk → y = kV kk:=fun kk e=>by
  rcases ry with r | ⟨R,r⟩
  ·exact Q6a e r
  ·exact Q6a e (r.ex S)
 have ei:∀ i,k = .int i → y = .int i:=fun i e=>by
  subst e
  exact ek (.inl i) rfl
 unfold Q7c at h
 split at h
 ·rename_i ds
  obtain ⟨xs,h1,r1⟩:=o
  split at h
  ·rename_i i
   cases e1:ixN ds.length i with
   | none=>rw [e1] at h; cases h
   | some j =>
    rw [e1] at h
    cases h
    refine ⟨.lst (xs.set j z),⟨_,upd_same,r1.set j rz⟩,fun Q q=>.inl ⟨p,xs,i,j,rfl,ei i rfl,h1,by rw [r1.length]; exact e1,q⟩⟩
  ·cases h
 ·rename_i ds
  obtain ⟨kvs,h1,r1⟩:=o
  cases e1:Kk k with
  | none=>rw [e1] at h; cases h
  | some kk =>
   rw [e1] at h
   simp only [Q1] at h
   split at h
   ·rename_i hz
    cases h
    have:=ek kk e1
    subst this
    exact ⟨.dK (putK kvs kk z),⟨_,upd_same,r1.put kk rz⟩,fun Q q=>.inr ⟨p,_,rfl,DPut.k h1 (by rw [r1.length]; exact hz),q⟩⟩
   ·cases h
 ·cases h
def Q50 (i:Nat) (δ:List Sl):Option D:=match δ[i]? with
 | some (.ow d)=>some d
 | _=>none
theorem Q5Z {i:Nat} {δ:List Sl} {d:D} (h:Q50 i δ = some d):δ[i]? = some (.ow d):=by
 unfold Q50 at h
 split at h
 ·rename_i e; cases h; exact e
 ·cases h
def Q2i (i:Nat) (fk fv:List Sl → Option (D × List Sl)):List Sl → Option Out:=fun δ=>(fv δ).bind fun p=>(Q50 i p.2).bind fun _=>(fk p.2).bind fun q=>(Q50 i q.2).bind fun d=>(Q7c d q.1 p.1).map fun d'=>.nx (q.2.set i (.ow d'))
structure Pc (X:Cx) (o i:Expr) (v:Expr) (tpos:Pos) (line:Nat):Prop where
 sw:swapsWithSole [.Subscript o i tpos] v line X.env = pure false
 st:swappedStores [.Subscript o i tpos] v X.env = pure none
 ea:(assignEach [.Subscript o i tpos] X.env).map (·.2) = [assign (.Subscript o i tpos) X.env]
 as:∀ u,assign (.Subscript o i tpos) X.env u = (do
   let ov ← holding [u] (eval o X.env)
   let iv ← holding [u,ov] (eval i X.env)
   standAt tpos
   holding [u,ov,iv] (setItem ov iv u)
   release [u,ov,iv] [])
theorem Q0W {io:Iom} {fr:Fr} {i:Nat} {x:Str} {ek v:Expr} {fk fv} {Rk Mk Mv:List Nat} {p1 tpos:Pos} (hu:X.A.units + 1 < cLine) (n:Nm X i x) (hk:EV X ek fk Rk Mk) (hv:EV X v fv [] Mv) (c:Pc X (.Name x p1) ek v tpos pos.line) :
  SV X io fr (.Assign [.Subscript (.Name x p1) ek tpos] v pos) (Q2i i fk fv):=by
 obtain ⟨tk,pk,qk⟩:=hk
 obtain ⟨tv,pv,qv⟩:=hv
 refine ⟨_,ps_asg pv (pg_sub n.pe pk (QhT hu) c.as) c.sw c.st c.ea,fun Y F H δ σ A hY S o e D k=>?_⟩
 unfold Q2i at e
 cases e1:fv δ with
 | none=>rw [e1] at e; cases e
 | some w =>
  obtain ⟨d,δ1⟩:=w
  rw [e1] at e
  simp only [Q1] at e
  cases e2:Q50 i δ1 with
  | none=>rw [e2] at e; cases e
  | some d0 =>
   rw [e2] at e
   simp only [Q1] at e
   cases e3:fk δ1 with
   | none=>rw [e3] at e; cases e
   | some w =>
    obtain ⟨dk,δ2⟩:=w
    rw [e3] at e
    simp only [Q1] at e
    cases e4:Q50 i δ2 with
    | none=>rw [e4] at e; cases e
    | some d1 =>
     rw [e4] at e
     simp only [Q1] at e
     cases e5:Q7c d1 dk d with
     | none=>rw [e5] at e; cases e
     | some d' =>
      rw [e5] at e
      cases e
      refine qv Y F H δ σ A S d δ1 e1 _ fun z F1 H1 st1 S1 r1=>?_
      obtain ⟨a,s1,_,_⟩:=S1.slot i _ (Q5Z e2)
      refine ⟨.ref a,Wh s1,?_⟩
      refine qk Y F1 H1 δ1 σ A S1 dk δ2 e3 _ fun y F2 H2 st2 S2 r2=>?_
      obtain ⟨b,s3,s4,s5⟩:=S2.slot i _ (Q5Z e4)
      have:b = a:=by
       rw [s1] at s3
       cases s3
       rfl
      subst this
      obtain ⟨u,o2,go⟩:=QeJ S2 s5 (.inr ⟨_,r2⟩) (r1.nil.mono st2.f) e5
      exact go _ (k σ F2 _ A (st1.f.trans st2.f) (S2.chg (Q5Z e4) s4 o2))
end
end Z
namespace Z
open PySem PySem.Spec PyProof.Rows L2
inductive Tt where
 | nm (i:Nat)
 | nil
 | cons (a b:Tt)
mutual
/-- a target takes a datum -/
def Vu:Tt → D → List Sl → Option (List Sl)
 | .nm i,d,δ=>if i < δ.length then some (δ.set i (.fz d)) else none
 | .nil,d,δ=>match d with
  | .tuple ds=>Vy .nil ds δ
  | _=>none
 | .cons a b,d,δ=>match d with
  | .tuple ds=>Vy (.cons a b) ds δ
  | _=>none
def Vy:Tt → List D → List Sl → Option (List Sl)
 | .nil,[],δ=>some δ
 | .cons a b,d :: ds,δ=>(Vu a d δ).bind fun δ1=>Vy b ds δ1
 | _,_,_=>none
end
mutual
theorem Q2T:∀ {T:Tt} {d:D} {δ δ':List Sl},Vu T d δ = some δ' → δ'.length = δ.length
 | .nm i,d,δ,δ',h=>by
  unfold Vu at h
  split at h
  ·cases h
   rw [Qv]
  ·cases h
 | .nil,d,δ,δ',h=>by
  unfold Vu at h
  cases d with
  | tuple ds=>exact Q2d h
  | _=>cases h
 | .cons a b,d,δ,δ',h=>by
  unfold Vu at h
  cases d with
  | tuple ds=>exact Q2d h
  | _=>cases h
theorem Q2d:∀ {T:Tt} {ds:List D} {δ δ':List Sl},Vy T ds δ = some δ' → δ'.length = δ.length
 | .nm i,ds,δ,δ',h=>by
  unfold Vy at h
  cases h
 | .nil,[],δ,δ',h=>by
  unfold Vy at h
  cases h
  rfl
 | .nil,_ :: _,δ,δ',h=>by
  unfold Vy at h
  cases h
 | .cons a b,[],δ,δ',h=>by
  unfold Vy at h
  cases h
 | .cons a b,d :: ds,δ,δ',h=>by
  unfold Vy at h
  cases e:Vu a d δ with
  | none=>rw [e] at h; cases h
  | some δ1 =>
   rw [e] at h
   rw [Q2d (T:=b) h,Q2T e]
end
def tS:Tt → List Nat
 | .nm i=>[i]
 | .nil=>[]
 | .cons a b=>tS a ++ tS b
structure But (l:List Nat) (σ σ':L2.St) (A A':Nat → List Addr):Prop where
 s:∀ j,j ∉ l → σ'[j]? = σ[j]?
 a:∀ j,j ∉ l → A' j = A j
 e:∀ j,j ∈ l → A' j = []
theorem But.trans {l m:List Nat} {σ σ1 σ2:L2.St} {A A1 A2:Nat → List Addr} (h:But l σ σ1 A A1) (h':But m σ1 σ2 A1 A2):But (l ++ m) σ σ2 A A2:=by
 refine ⟨fun j hj=>?_,fun j hj=>?_,fun j hj=>?_⟩
 ·simp only [Qc,not_or] at hj
  rw [h'.s j hj.2,h.s j hj.1]
 ·simp only [Qc,not_or] at hj
  rw [h'.a j hj.2,h.a j hj.1]
 ·by_cases c:j ∈ m
  ·exact h'.e j c
  ·rw [h'.a j c]
   exact h.e j ((Qc.mp hj).resolve_right c)
section
variable {X:Cx} {io:Iom}
def GV (X:Cx) (e:Expr) (T:Tt):Prop :=
 ∃ g,PG X e g ∧ ∀ (Y:Fx) (F H:Hp) (δ:List Sl) (σ:L2.St) (A:Nat → List Addr),(∀ j ∈ tS T,Y.io j = false) → SR X.K Y F H δ σ A → ∀ (x:V) (d:D) (δ':List Sl),Rp X.K F x d → Vu T d δ = some δ' → ∀ Q:L2.St → Hp → Prop,(∀ σ' A',But (tS T) σ σ' A A' → SR X.K Y F H δ' σ' A' → Q σ' H) → g x σ H Q
def GsV (X:Cx) (es:List Expr) (T:Tt):Prop :=
 ∃ g,PGs X es g ∧ ∀ (Y:Fx) (F H:Hp) (δ:List Sl) (σ:L2.St) (A:Nat → List Addr),(∀ j ∈ tS T,Y.io j = false) → SR X.K Y F H δ σ A → ∀ (xs:List V) (ds:List D) (δ':List Sl),Rps X.K F xs ds → Vy T ds δ = some δ' → ∀ Q:L2.St → Hp → Prop,(∀ σ' A',But (tS T) σ σ' A A' → SR X.K Y F H δ' σ' A' → Q σ' H) → g xs σ H Q
theorem Yi {i:Nat} {x:Str} {pos:Pos} (T:Tg X i x):GV X (.Name x pos) (.nm i):=by
 refine ⟨_,pg_name T.nd T.at_ T.loc T.fn,fun Y F H δ σ A hY S x d δ' r e Q k=>?_⟩
 unfold Vu at e
 split at e
 ·rename_i hi
  cases e
  refine k _ _ ⟨fun j hj=>?_,fun j hj=>?_,fun j hj=>?_⟩ (S.putFz hi (hY i (by simp [tS])) r)
  ·rw [Qk fun c=>hj (by simp [tS,c])]
  ·exact Kl fun c=>hj (by simp [tS,c])
  ·simp [tS] at hj
   subst hj
   exact Wn
 ·cases e
theorem Q0h:GsV X [] .nil:=by
 refine ⟨_,pgs_nil,fun Y F H δ σ A hY S xs ds δ' r e Q k=>?_⟩
 cases r with
 | nil =>
  unfold Vy at e
  cases e
  exact ⟨rfl,k _ _ ⟨fun _ _=>rfl,fun _ _=>rfl,fun j hj=>by simp [tS] at hj⟩ S⟩
 | cons _ _ =>
  unfold Vy at e
  cases e
theorem Vl {a:Expr} {es:List Expr} {T U:Tt} (h1:GV X a T) (h2:GsV X es U) (hs:(assignEach (a :: es) X.env).map (·.2) = assign a X.env :: (assignEach es X.env).map (·.2):=by rfl):GsV X (a :: es) (.cons T U):=by
 obtain ⟨g,p,q⟩:=h1
 obtain ⟨g2,p2,q2⟩:=h2
 refine ⟨_,pgs_cons p p2 hs,fun Y F H δ σ A hY S xs ds δ' r e Q k=>?_⟩
 cases r with
 | nil =>
  unfold Vy at e
  cases e
 | cons h r =>
  rename_i v vs d ds
  unfold Vy at e
  cases e1:Vu T d δ with
  | none=>rw [e1] at e; cases e
  | some δ1 =>
   rw [e1] at e
   exact ⟨v,vs,rfl,q Y F H δ σ A (fun j hj=>hY j (Q9 _ hj)) S v d δ1 h e1 _ fun σ' A' b S'=>q2 Y F H δ1 σ' A' (fun j hj=>hY j (Qd _ hj)) S' vs ds δ' r e Q fun σ2 A2 b2 S2=>k σ2 A2 (b.trans b2) S2⟩
theorem QiY {es:List Expr} {k:Nat} {pos:Pos} {T:Tt} {n:Nat} (hc:X.calm = true) (h:GsV X es T) (hT:∀ i,T ≠ .nm i) (hn:(assignEach es X.env).length = n) (hlen:∀ ds δ δ',Vy T ds δ = some δ' → ds.length = n) (hst:(assignEach es X.env).findIdx? (·.1) = none:=by rfl):GV X (.Tuple es k pos) T:=by
 obtain ⟨g,p,q⟩:=h
 refine ⟨_,pg_tup hc p hn hst,fun Y F H δ σ A hY S x d δ' r e Q k=>?_⟩
 have e2:∃ ds,d = .tuple ds ∧ Vy T ds δ = some δ':=by
  cases T with
  | nm i=>exact absurd rfl (hT i)
  | nil =>
   unfold Vu at e
   cases d with
   | tuple ds=>exact ⟨ds,rfl,e⟩
   | _=>cases e
  | cons a b =>
   unfold Vu at e
   cases d with
   | tuple ds=>exact ⟨ds,rfl,e⟩
   | _=>cases e
 obtain ⟨ds,rfl,e2⟩:=e2
 cases r with
 | tup h1 r1 =>
  exact ⟨_,_,rfl,Same.sqt S.sub h1,by rw [r1.length]; exact hlen _ _ _ e2,q Y F H δ σ A hY S _ ds δ' r1 e2 Q k⟩
def Yd (K:PySem.W.Frag) (G H:Hp) (x:V) (H':Hp) (d:D):Prop :=
 (H' = H ∧ Rp K G x d) ∨ ∃ T xs es,H T = none ∧ H' = upd H T (.tup xs) ∧ x = .ref T ∧ d = .tuple es ∧ Rps K G xs es
structure Wk (K:PySem.W.Frag) (G E:Hp) (J:It) (ds:List D):Prop where
 go:∀ i H,i < ds.length → Same E H → J.go i H
 yld:∀ i H x H' d,Same E H → J.yld i H x H' → ds[i]? = some d → Yd K G H x H' d
 stop:∀ H,Same E H → J.stop ds.length H
def IV (X:Cx) (tg iter:Expr) (f:List Sl → Option (List D × List Sl)) (R M:List Nat):Prop :=
 ∃ wi,PI X tg iter wi ∧ ∀ (Y:Fx) (F H:Hp) (δ:List Sl) (σ:L2.St) (A:Nat → List Addr),SR X.K Y F H δ σ A → ∀ (ds:List D) (δ':List Sl),f δ = some (ds,δ') → ∀ Q:It → Hp → Prop,
  (∀ J F' H',Stp A M F H F' H' → SR X.K Y F' H' δ' σ A → Wk X.K F' (ex R A F' H') J ds → Q J H') → wi σ H Q
theorem PI.or {tg iter:Expr} {w1 w2:TI} (h1:PI X tg iter w1) (h2:PI X tg iter w2):PI X tg iter (fun σ H R=>w1 σ H R ∨ w2 σ H R) :=
 ⟨fun pins s σ H R I h=>h.elim (h1.run pins s σ H R I) (h2.run pins s σ H R I)⟩
def Kq:D → Option (List D)
 | .list ds=>some ds
 | .tuple ds=>some ds
 | .str z=>some (z.cps.toList.map fun c=>.str ⟨#[c]⟩)
 | .dict ds=>some (ds.map (·.1))
 | _=>none
def fIt (fa:List Sl → Option (D × List Sl)):List Sl → Option (List D × List Sl):=fun δ=>(fa δ).bind fun p=>(Kq p.1).map fun ds=>(ds,p.2)
theorem Vw.listE {K:PySem.W.Frag} {Y:Fx} {F H:Hp} {δ:List Sl} {σ:L2.St} {A:Nat → List Addr} {R:List Nat} {v:V} {ds:List D} (S:SR K Y F H δ σ A) (h:Vw K F H A R v (.list ds)):∃ p xs,v = .ref p ∧ Z.ex R A F H p = some (.lst xs) ∧ Rps K F xs ds:=by
 rcases h with h | ⟨i,hi,p,e,eA,o⟩
 ·cases h with
  | lst h1 r=>exact ⟨_,_,rfl,Q5Y S _ _ h1,r⟩
 ·obtain ⟨xs,h1,r⟩:=o
  exact ⟨p,xs,e,(if_pos ⟨i,hi,by rw [eA]; simp⟩:Z.ex R A F H p = H p).trans h1,r⟩
theorem Qhh {K:PySem.W.Frag} {G E:Hp} {a:Addr} {xs:List V} {ds:List D} (h:E a = some (.lst xs)) (r:Rps K G xs ds):Wk K G E (Itl K a) ds:=by
 refine ⟨fun i H hi s=>?_,fun i H x H' d s y e=>?_,fun H s=>?_⟩
 ·have:i < xs.length:=by rw [r.length]; exact hi
  exact ⟨xs,xs[i],SqL.of (s _ _ h),Qa this⟩
 ·obtain ⟨rfl,f⟩:=y
  obtain ⟨v,v1,v2⟩:=r.get e
  have:=f xs (SqL.of (s _ _ h))
  rw [v1] at this
  cases this
  exact .inl ⟨rfl,v2⟩
 ·exact ⟨xs,SqL.of (s _ _ h),by rw [r.length]; exact Jf _⟩
theorem Qji {K:PySem.W.Frag} {G E:Hp} {a:Addr} {xs:List V} {ds:List D} (h:SqT K E a xs) (r:Rps K G xs ds):Wk K G E (Itt K a) ds:=by
 refine ⟨fun i H hi s=>?_,fun i H x H' d s y e=>?_,fun H s=>?_⟩
 ·have:i < xs.length:=by rw [r.length]; exact hi
  exact ⟨xs,xs[i],Same.sqt s h,Qa this⟩
 ·obtain ⟨rfl,f⟩:=y
  obtain ⟨v,v1,v2⟩:=r.get e
  have:=f xs (Same.sqt s h)
  rw [v1] at this
  cases this
  exact .inl ⟨rfl,v2⟩
 ·exact ⟨xs,Same.sqt s h,by rw [r.length]; exact Jf _⟩
theorem QjW {K:PySem.W.Frag} {G E:Hp} {z:Str}:Wk K G E (Its z) (z.cps.toList.map fun c=>.str ⟨#[c]⟩):=by
 refine ⟨fun i H hi s=>?_,fun i H x H' d s y e=>?_,fun H s=>?_⟩
 ·simpa [Its] using hi
 ·obtain ⟨rfl,c,h1,rfl⟩:=y
  rw [Qp,Array.getElem?_toList,h1] at e
  cases e
  exact .inl ⟨rfl,.str _⟩
 ·show z.cps.size ≤ _
  simp
theorem RpK.key {K:PySem.W.Frag} {G:Hp}:∀ {kvs:List (Key × V)} {ds:List (D × D)} {i:Nat} {d:D},RpK K G kvs ds → (ds.map (·.1))[i]? = some d → ∃ k v,kvs[i]? = some (k,v) ∧ d = Q7m k
 | _,_,_,_,.nil,e=>by simp at e
 | _,_,0,_,.cons h r,e=>by simp at e; subst e; exact ⟨_,_,rfl,rfl⟩
 | _,_,i + 1,d,.cons h r,e=>by
  obtain ⟨k,v,h1,h2⟩:=RpK.key (i:=i) (d:=d) r (by simpa using e)
  exact ⟨k,v,by simpa using h1,h2⟩
theorem Qh8 {K:PySem.W.Frag} {G:Hp}:∀ (k:Key),Rp K G (kV k) (Q7m k)
 | .inl i=>.int i
 | .inr x=>.str x
theorem RpK.len {K:PySem.W.Frag} {G:Hp}:∀ {kvs:List (Key × V)} {ds:List (D × D)},RpK K G kvs ds → kvs.length = ds.length
 | _,_,.nil=>rfl
 | _,_,.cons _ r=>congrArg (· + 1) r.len
theorem Qht {K:PySem.W.Frag} {G E:Hp} {a:Addr} {o:Obj} {kvs:List (Key × V)} {ds:List (D × D)} (h:E a = some (.frz o (.dK kvs))) (r:RpK K G kvs ds):Wk K G E (Itk a o kvs) (ds.map (·.1)):=by
 have hl:=r.len
 refine ⟨fun i H hi s=>?_,fun i H x H' d s y e=>?_,fun H s=>?_⟩
 ·exact ⟨s _ _ h,by rw [hl]; simpa using hi⟩
 ·obtain ⟨rfl,k,v,h1,rfl⟩:=y
  obtain ⟨k',v',h2,rfl⟩:=r.key e
  rw [h1] at h2
  cases h2
  exact .inl ⟨rfl,Qh8 _⟩
 ·exact ⟨s _ _ h,by rw [hl]; simp⟩
theorem K1 {tg iter:Expr} {fa} {R M:List Nat} (h:EV X iter fa R M):IV X tg iter (fIt fa) R M:=by
 obtain ⟨t,p,q⟩:=h
 refine ⟨_,PI.or (pi_list p) (PI.or (pi_tup p) (PI.or (pi_str p) (pi_keys p))),fun Y F H δ σ A S ds δ' e Q k=>?_⟩
 unfold fIt at e
 cases e1:fa δ with
 | none=>rw [e1] at e; cases e
 | some w =>
  obtain ⟨d,δ1⟩:=w
  rw [e1] at e
  simp only [Q1] at e
  unfold Kq at e
  split at e
  ·cases e
   refine .inl (q Y F H δ σ A S _ _ e1 _ fun v F1 H1 st S1 r=>?_)
   obtain ⟨a,xs,rfl,h1,h2⟩:=r.listE S1
   exact ⟨a,rfl,⟨xs,SqL.of (Q2S S1 _ _ h1)⟩,k _ F1 H1 st S1 (Qhh h1 h2)⟩
  ·cases e
   refine .inr (.inl (q Y F H δ σ A S _ _ e1 _ fun v F1 H1 st S1 r=>?_))
   obtain ⟨a,xs,rfl,h0,h1,h2⟩:=r.tup S1
   exact ⟨a,rfl,⟨xs,h1⟩,k _ F1 H1 st S1 (Qji (Same.sqt (Q5Y S1) h0) h2)⟩
  ·cases e
   refine .inr (.inr (.inl (q Y F H δ σ A S _ _ e1 _ fun v F1 H1 st S1 r=>?_)))
   exact ⟨_,r.str,k _ F1 H1 st S1 QjW⟩
  ·cases e
   refine .inr (.inr (.inr (q Y F H δ σ A S _ _ e1 _ fun v F1 H1 st S1 r=>?_)))
   have r':=r.ex S1
   cases r' with
   | dic h1 r2 =>
    obtain ⟨p',o',kvs',e3,h3,r3⟩:=r.dict S1
    cases e3
    rw [Q2S S1 _ _ h1] at h3
    cases h3
    exact ⟨_,_,rfl,.inl ⟨_,Q2S S1 _ _ h1,k _ F1 H1 st S1 (Qht h1 r3)⟩⟩
  ·cases e
def Q47 (lo:Int) (n:Nat):List D:=(Jj n).map fun i=>.int (lo + (i:Nat))
theorem Q6o {lo:Int} {n:Nat}:(Q47 lo n).length = n:=by simp [Q47]
theorem QiF {K:PySem.W.Frag} {G E:Hp} {lo:Int} {n:Nat}:Wk K G E (Itr lo n) (Q47 lo n):=by
 refine ⟨fun i H hi s=>?_,fun i H x H' d s y e=>?_,fun H s=>?_⟩
 ·rw [Q6o] at hi
  exact hi
 ·obtain ⟨rfl,rfl⟩:=y
  unfold Q47 at e
  rw [Qp] at e
  cases e1:(Jj n)[i]? with
  | none=>rw [e1] at e; cases e
  | some j =>
   rw [e1] at e
   have:j = i:=by
    have:=Q8.mp e1
    obtain ⟨_,h⟩:=this
    simpa using h.symm
   subst this
   cases e
   exact .inl ⟨rfl,.int _⟩
 ·rw [Q6o]
  exact Jf _
def Zx (i:Int):Bool:=decide (-(2 ^ 62) ≤ i) && decide (i < 2 ^ 62)
def Q4a (f:List Sl → Option (List D × List Sl)):List Sl → Option (List D × List Sl):=fun δ=>(f δ).bind fun p=>match p.1 with
 | [.int j]=>if Zx j then some (Q47 0 j.toNat,p.2) else none
 | [.int i,.int j]=>if Zx i && Zx j then some (Q47 i (j - i).toNat,p.2) else none
 | _=>none
theorem Q0z {tg a:Expr} {f} {R M:List Nat} {p pos:Pos} (hg:Gl X "range") (hm:X.mg "range" = none) (h:AV X [a] f R M) (hs:starEach [a] X.env = [(false,eval a X.env)]:=by rfl) (h1:∀ δ ds δ',f δ = some (ds,δ') → ds.length = 1):IV X tg (.Call (.Name "range" p) [a] [] pos) (Q4a f) [] M:=by
 obtain ⟨t,pa,q⟩:=h
 refine ⟨_,pi_range1 hg hm pa hs,fun Y F H δ σ A S ds δ' e Q k=>?_⟩
 unfold Q4a at e
 cases e1:f δ with
 | none=>rw [e1] at e; cases e
 | some w =>
  obtain ⟨es,δ1⟩:=w
  have hl:=h1 _ _ _ e1
  rw [e1] at e
  simp only [Q1] at e
  split at e
  ·split at e
   ·rename_i c
    cases e
    simp only [Zx,Q5,decide_eq_true_eq] at c
    refine q Y F H δ σ A S _ _ e1 _ fun vs F1 H1 st S1 r=>?_
    obtain ⟨v,rfl,rv⟩:=r.one
    exact ⟨_,by rw [rv.int],c.1,c.2,k _ F1 H1 st S1 QiF⟩
   ·cases e
  ·simp at hl
  ·cases e
def Q5g (ds:List D):List D:=ds.zipIdx.map fun p=>.tuple [.int (p.2:Nat),p.1]
def Q6E (fa:List Sl → Option (D × List Sl)):List Sl → Option (List D × List Sl):=fun δ=>(fa δ).bind fun p=>match p.1 with
 | .list ds=>some (Q5g ds,p.2)
 | _=>none
theorem Qhj {K:PySem.W.Frag} {G E:Hp} {a:Addr} {xs:List V} {ds:List D} (h:E a = some (.lst xs)) (r:Rps K G xs ds):Wk K G E (Ite K a) (Q5g ds):=by
 have hl:(Q5g ds).length = ds.length:=by simp [Q5g]
 refine ⟨fun i H hi s=>?_,fun i H x H' d s y e=>?_,fun H s=>?_⟩
 ·have:i < xs.length:=by rw [r.length,← hl]; exact hi
  exact ⟨xs,xs[i],SqL.of (s _ _ h),Qa this⟩
 ·obtain ⟨T,x',rfl,nT,rfl,f⟩:=y
  unfold Q5g at e
  rw [Qp,List.getElem?_zipIdx] at e
  cases e1:ds[i]? with
  | none=>rw [e1] at e; cases e
  | some d1 =>
   rw [e1] at e
   simp only [Qi,Nat.zero_add,Ja.injEq] at e
   subst e
   obtain ⟨v,v1,v2⟩:=r.get e1
   have:=f xs (SqL.of (s _ _ h))
   rw [v1] at this
   cases this
   exact .inr ⟨T,_,_,nT,rfl,rfl,rfl,.cons (.int _) (.cons v2 .nil)⟩
 ·exact ⟨xs,SqL.of (s _ _ h),by rw [r.length,hl]; exact Jf _⟩
theorem QcR {e:Expr} {fa} {R M:List Nat} {p pos tpos:Pos} {elts:List Expr} {kk:Nat} (hg:Gl X "enumerate") (hm:X.mg "enumerate" = none) (h:EV X e fa R M) (hs:starEach [e] X.env = [(false,eval e X.env)]:=by rfl):IV X (.Tuple elts kk tpos) (.Call (.Name "enumerate" p) [e] [] pos) (Q6E fa) R M:=by
 obtain ⟨t,pe,q⟩:=h
 refine ⟨_,pi_enum hg hm (pa_cons pe pa_nil hs) hs,fun Y F H δ σ A S ds δ' e Q k=>?_⟩
 unfold Q6E at e
 cases e1:fa δ with
 | none=>rw [e1] at e; cases e
 | some w =>
  obtain ⟨d,δ1⟩:=w
  rw [e1] at e
  simp only [Q1] at e
  split at e
  ·cases e
   refine q Y F H δ σ A S _ _ e1 _ fun v F1 H1 st S1 r=>?_
   obtain ⟨a,xs,rfl,h1,h2⟩:=r.listE S1
   exact ⟨a,xs,rfl,SqL.of (Q2S S1 _ _ h1),k _ F1 H1 st S1 (Qhj h1 h2)⟩
  ·cases e
def Q5s (T:Tt) (b:List Sl → Option Out):List D → List Sl → Option Out
 | [],δ=>some (.nx δ)
 | d :: r,δ=>(Vu T d δ).bind fun δ1=>(b δ1).bind fun o=>match o with
  | .nx δ2=>Q5s T b r δ2
  | .ct δ2=>Q5s T b r δ2
  | .rt d' δ2=>some (.rt d' δ2)
def Q1H (T:Tt) (f:List Sl → Option (List D × List Sl)) (b:List Sl → Option Out):List Sl → Option Out:=fun δ=>(f δ).bind fun p=>Q5s T b p.1 p.2
theorem Q27 {fr:Fr} {tg iter:Expr} {body:List Stmt} {pos:Pos} {T:Tt} {f} {M:List Nat} {b} (hp:PassesOwn (model X.prog X.w) X.A X.env X.xe) (hc:X.calm = true) (hi:IV X tg iter f [] M) (hg:GV X tg T) (hT:∀ j ∈ tS T,io j = false:=by decide) (hb:BV X io fr body b) (hs:∀ x,foldedSetIterable iter X.env x = pure x:=by intro _; rfl):SV X io fr (.For tg iter body [] pos) (Q1H T f b):=by
 obtain ⟨wi,pw,qi⟩:=hi
 obtain ⟨g,pg,qg⟩:=hg
 obtain ⟨tb,pb,qb⟩:=hb
 refine ⟨_,ps_for hp hc pw pg pb hs,fun Y F H δ σ A hY S o e D k=>?_⟩
 unfold Q1H at e
 cases e1:f δ with
 | none=>rw [e1] at e; cases e
 | some w =>
  obtain ⟨ds,δ1⟩:=w
  rw [e1] at e
  simp only [Q1] at e
  refine qi Y F H δ σ A S ds δ1 e1 _ fun J F1 H1 st S1 wk=>?_
  rw [Qff] at wk
  refine ⟨fun i m σ' H'=>m = ds.length - i ∧ i ≤ ds.length ∧ ∃ F' A' δ',Same F1 F' ∧ SR X.K Y F' H' δ' σ' A' ∧ Q5s T b (ds.drop i) δ' = some o,⟨ds.length,by simp,Jo _,F1,A,δ1,Same.refl _,S1,by rw [List.drop_zero]; exact e⟩,?_⟩
  rintro i m σ' H' ⟨rfl,hi,F',A',δ',sF,S',ef⟩
  by_cases hlt:i < ds.length
  ·have hd:ds.drop i = ds[i] :: ds.drop (i + 1):=List.drop_eq_getElem_cons hlt
   rw [hd] at ef
   unfold Q5s at ef
   cases e2:Vu T ds[i] δ' with
   | none=>rw [e2] at ef; cases ef
   | some δ2 =>
    rw [e2] at ef
    simp only [Q1] at ef
    cases e3:b δ2 with
    | none=>rw [e3] at ef; cases ef
    | some o1 =>
     rw [e3] at ef
     simp only [Q1] at ef
     refine .inr ⟨wk.go i H' hlt (sF.trans S'.sub),fun σ2 H2=>∃ F2 A2 δ3,Same F' F2 ∧ SR X.K Y F2 H2 δ3 σ2 A2 ∧ Q5s T b (ds.drop (i + 1)) δ3 = some o,fun σ2 H2 ⟨F2,A2,δ3,s2,S2,e4⟩=>⟨ds.length - (i + 1),by omega,rfl,by omega,F2,A2,δ3,sF.trans s2,S2,e4⟩,fun x H2 y=>?_⟩
     have main:∀ (F2:Hp),Same F' F2 → SR X.K Y F2 H2 δ' σ' A' → Rp X.K F2 x ds[i] → g x σ' H2 fun σ2 H2=>tb { D with nx:=fun σ2 H2=>∃ F2 A2 δ3,Same F' F2 ∧ SR X.K Y F2 H2 δ3 σ2 A2 ∧ Q5s T b (ds.drop (i + 1)) δ3 = some o,ct:=fun σ2 H2=>∃ F2 A2 δ3,Same F' F2 ∧ SR X.K Y F2 H2 δ3 σ2 A2 ∧ Q5s T b (ds.drop (i + 1)) δ3 = some o,bk:=D.nx } σ2 H2:=by
      intro F2 s2 S2 r2
      refine qg Y F2 H2 δ' σ' A' (fun j hj=>by rw [hY]; exact hT j hj) S2 x _ δ2 r2 e2 _ fun σ3 A3 _ S3=>?_
      refine qb Y F2 H2 δ2 σ3 A3 hY S3 o1 e3 _ ?_
      cases o1 with
      | nx δ3=>exact fun σ4 F4 H4 A4 s4 S4=>⟨F4,A4,δ3,s2.trans s4,S4,ef⟩
      | ct δ3=>exact fun σ4 F4 H4 A4 s4 S4=>⟨F4,A4,δ3,s2.trans s4,S4,ef⟩
      | rt d' δ3 =>
       cases ef
       exact fun v σ4 F4 H4 A4 s4 S4 r=>k v σ4 F4 H4 A4 (st.f.trans (sF.trans (s2.trans s4))) S4 r
     rcases wk.yld i H' x H2 _ (sF.trans S'.sub) y (Qa hlt) with ⟨rfl,r⟩ | ⟨U,xs,es,nU,rfl,rfl,e5,r⟩
     ·exact main F' (Same.refl _) S' (r.mono sF)
     ·have l:=Stp.laid (M:=[]) (o:=.tup xs) S' nU
      refine main _ l.f (S'.laid nU) ?_
      rw [e5]
      exact .tup (.inl (.inl upd_same)) (r.mono (sF.trans l.f))
  ·have hi2:i = ds.length:=by omega
   subst hi2
   rw [List.drop_length] at ef
   unfold Q5s at ef
   cases ef
   exact .inl ⟨wk.stop H' (sF.trans S'.sub),k σ' F' H' A' (st.f.trans sF) S'⟩
def Q2e (c:List Sl → Option (Bool × List Sl)) (b:List Sl → Option Out):Nat → List Sl → Option Out
 | 0,_=>none
 | n + 1,δ=>(c δ).bind fun p=>match p.1 with
  | false=>some (.nx p.2)
  | true=>(b p.2).bind fun o=>match o with
   | .nx δ2=>Q2e c b n δ2
   | .ct δ2=>Q2e c b n δ2
   | .rt d' δ2=>some (.rt d' δ2)
theorem Qg3 {fr:Fr} {c:Expr} {body:List Stmt} {pos:Pos} {gc} {M:List Nat} {b} {n:Nat} (hp:PassesOwn (model X.prog X.w) X.A X.env X.xe) (hc:TV X c gc M) (hb:BV X io fr body b):SV X io fr (.While c body [] pos) (Q2e gc b n):=by
 obtain ⟨tc,pc,qc⟩:=hc
 obtain ⟨tb,pb,qb⟩:=hb
 refine ⟨_,ps_while hp pc pb,fun Y F H δ σ A hY S o e D k=>?_⟩
 refine ⟨fun m σ' H'=>∃ F' A' δ',Same F F' ∧ SR X.K Y F' H' δ' σ' A' ∧ Q2e gc b m δ' = some o,⟨n,F,A,δ,Same.refl _,S,e⟩,?_⟩
 rintro m σ' H' ⟨F',A',δ',sF,S',ef⟩
 cases m with
 | zero=>cases ef
 | succ m =>
  unfold Q2e at ef
  cases e1:gc δ' with
  | none=>rw [e1] at ef; cases ef
  | some w =>
   obtain ⟨b1,δ1⟩:=w
   rw [e1] at ef
   refine qc Y F' H' δ' σ' A' S' b1 δ1 e1 _ fun F1 H1 st S1=>?_
   cases b1 with
   | false =>
    cases ef
    exact iteF (k σ' F1 H1 A' (sF.trans st.f) S1)
   | true =>
    refine iteT ?_
    simp only [Q1] at ef
    cases e3:b δ1 with
    | none=>rw [e3] at ef; cases ef
    | some o1 =>
     rw [e3] at ef
     simp only [Q1] at ef
     refine ⟨fun σ2 H2=>∃ F2 A2 δ3,Same F F2 ∧ SR X.K Y F2 H2 δ3 σ2 A2 ∧ Q2e gc b m δ3 = some o,fun σ2 H2 h=>⟨m,by omega,h⟩,?_⟩
     refine qb Y F1 H1 δ1 σ' A' hY S1 o1 e3 _ ?_
     cases o1 with
     | nx δ3=>exact fun σ4 F4 H4 A4 s4 S4=>⟨F4,A4,δ3,(sF.trans st.f).trans s4,S4,ef⟩
     | ct δ3=>exact fun σ4 F4 H4 A4 s4 S4=>⟨F4,A4,δ3,(sF.trans st.f).trans s4,S4,ef⟩
     | rt d' δ3 =>
      cases ef
      exact fun v σ4 F4 H4 A4 s4 S4 r=>k v σ4 F4 H4 A4 ((sF.trans st.f).trans s4) S4 r
end
end Z
namespace Z
open PySem PySem.Spec PyProof.Rows L2
def tEV (K:PySem.W.Frag) (f:List Sl → Option (D × List Sl)) (R M:List Nat):TE:=fun σ H Q =>
 ∃ (Y:Fx) (F:Hp) (δ:List Sl) (A:Nat → List Addr) (d:D) (δ':List Sl),SR K Y F H δ σ A ∧ f δ = some (d,δ') ∧ ∀ v F' H',Stp A M F H F' H' → SR K Y F' H' δ' σ A → Vw K F' H' A R v d → Q v H'
def tTV (K:PySem.W.Frag) (f:List Sl → Option (Bool × List Sl)) (M:List Nat):TT:=fun σ H Q =>
 ∃ (Y:Fx) (F:Hp) (δ:List Sl) (A:Nat → List Addr) (b:Bool) (δ':List Sl),SR K Y F H δ σ A ∧ f δ = some (b,δ') ∧ ∀ F' H',Stp A M F H F' H' → SR K Y F' H' δ' σ A → Q b H'
def tGV (K:PySem.W.Frag) (T:Tt):TG:=fun x σ H Q =>
 ∃ (Y:Fx) (F:Hp) (δ:List Sl) (A:Nat → List Addr) (d:D) (δ':List Sl),(∀ j ∈ tS T,Y.io j = false) ∧ SR K Y F H δ σ A ∧ Rp K F x d ∧ Vu T d δ = some δ' ∧ ∀ σ' A',But (tS T) σ σ' A A' → SR K Y F H δ' σ' A' → Q σ' H
theorem EV.pe {X:Cx} {e:Expr} {f R M} (h:EV X e f R M):PE X e (tEV X.K f R M):=by
 obtain ⟨t,p,q⟩:=h
 refine ⟨fun pins s σ H Q I z=>?_⟩
 obtain ⟨Y,F,δ,A,d,δ',S,e1,k⟩:=z
 exact p.run pins s σ H Q I (q Y F H δ σ A S d δ' e1 Q k)
theorem TV.pt {X:Cx} {e:Expr} {f M} (h:TV X e f M):PT X e (tTV X.K f M):=by
 obtain ⟨t,p,q⟩:=h
 refine ⟨fun pins s σ H Q I z=>?_⟩
 obtain ⟨Y,F,δ,A,d,δ',S,e1,k⟩:=z
 exact p.run pins s σ H Q I (q Y F H δ σ A S d δ' e1 Q k)
theorem GV.pg {X:Cx} {e:Expr} {T:Tt} (h:GV X e T):PG X e (tGV X.K T):=by
 obtain ⟨g,p,q⟩:=h
 refine ⟨fun pins s σ H v u Q I r z=>?_⟩
 obtain ⟨Y,F,δ,A,d,δ',hY,S,r1,e1,k⟩:=z
 exact p.run pins s σ H v u Q I r (q Y F H δ σ A hY S v d δ' r1 e1 Q k)
theorem Q9K {σ:L2.St} {j:Nat}:∀ {vs:List Nat},j ∈ vs → j < σ.length → (wipe σ vs)[j]? = some none
 | v :: vs,h,hj=>by
  unfold wipe
  by_cases c:v = j
  ·subst c
   exact Qo (by rw [wipe_length]; exact hj)
  ·rw [Qk c]
   exact Q9K ((Qg.mp h).resolve_left fun z=>c z.symm) hj
theorem Wc {σ:L2.St} {j:Nat}:∀ {vs:List Nat},j ∉ vs → (wipe σ vs)[j]? = σ[j]?
 | [],_=>rfl
 | v :: vs,h=>by
  simp only [Qg,not_or] at h
  unfold wipe
  rw [Qk (Ne.symm h.1)]
  exact Wc h.2
theorem Q6R {σ σ':L2.St} {vs:List Nat} (hl:σ'.length = σ.length) (h:∀ j,j ∉ vs → σ'[j]? = σ[j]?):wipe σ' vs = wipe σ vs:=by
 apply List.ext_getElem?
 intro j
 by_cases c:j ∈ vs
 ·by_cases cl:j < σ.length
  ·rw [Q9K c cl,Q9K c (by omega)]
  ·rw [Qz (by rw [wipe_length]; omega),Qz (by rw [wipe_length]; omega)]
 ·rw [Wc c,Wc c,h j c]
theorem Kd {δ:List Sl}:∀ {vs:List Nat},(Vo vs δ).length = δ.length
 | []=>rfl
 | v :: vs=>by
  show ((Vo vs δ).set v .no).length = _
  rw [Qv,Kd]
theorem Q0j {δ:List Sl} {j:Nat}:∀ {vs:List Nat},j ∈ vs → j < δ.length → (Vo vs δ)[j]? = some .no
 | v :: vs,h,hj=>by
  show ((Vo vs δ).set v .no)[j]? = _
  by_cases c:v = j
  ·subst c
   exact Qo (by rw [Kd]; exact hj)
  ·rw [Qk c]
   exact Q0j ((Qg.mp h).resolve_left fun z=>c z.symm) hj
theorem Q1n {δ:List Sl} {j:Nat}:∀ {vs:List Nat},j ∉ vs → (Vo vs δ)[j]? = δ[j]?
 | [],_=>rfl
 | v :: vs,h=>by
  simp only [Qg,not_or] at h
  show ((Vo vs δ).set v .no)[j]? = _
  rw [Qk (Ne.symm h.1)]
  exact Q1n h.2
def noS (vs:List Nat) (δ:List Sl):Bool:=vs.all fun j=>match δ[j]? with
 | some .no=>true
 | _=>false
section
variable {K:PySem.W.Frag} {Y:Fx} {F H:Hp} {δ:List Sl} {σ σ':L2.St} {A:Nat → List Addr} {vs:List Nat}
theorem Q1v (h:noS vs δ = true) {j:Nat} (hj:j ∈ vs):δ[j]? = some .no:=by
 have:=Qe.mp h j hj
 split at this
 ·assumption
 ·cases this
theorem Q5h {σ1 σ2:L2.St} {fs:List (Str × Nat)} (h:∀ q ∈ fs,σ1[q.2]? = σ2[q.2]?):Q4U σ1 fs = Q4U σ2 fs:=by
 unfold Q4U
 induction fs with
 | nil=>rfl
 | cons q r ih =>
  rw [Jh,Jh,h q Q7,ih fun x hx=>h x (Q6 _ hx)]
theorem SR.wiped (S:SR K Y F H δ σ' A) (hw:wipe σ' vs = wipe σ vs) (hA:∀ j ∈ vs,A j = []) (hio:∀ j ∈ vs,Y.io j = false) (hl:∀ j ∈ vs,j < δ.length):SR K Y F H (Vo vs δ) (wipe σ vs) A:=by
 have hlen:(wipe σ vs).length = σ'.length:=by rw [← hw,wipe_length]
 have out:∀ j,j ∉ vs → (wipe σ vs)[j]? = σ'[j]?:=fun j hj=>by rw [← hw,Wc hj]
 refine ⟨by rw [Kd,hlen]; exact S.len,fun j t e=>?_,fun j e=>?_,S.dis,S.hid,S.new,S.sub,fun j h1=>?_,S.ioA,S.kp,S.nw,S.f0,S.lio,fun j c fs e=>?_,fun j hj=>?_⟩
 ·by_cases c:j ∈ vs
  ·rw [Q0j c (hl j c)] at e
   cases e
   exact hA j c
  ·rw [Q1n c] at e
   rw [out j c]
   exact S.slot j t e
 ·by_cases c:j ∈ vs
  ·exact hA j c
  ·rw [Q1n c] at e
   exact S.out j e
 ·have c:j ∉ vs:=fun c=>by rw [S.nlt (hio j c)] at h1; cases h1
  rw [out j c]
  exact S.fix j h1
 ·by_cases c2:j ∈ vs
  ·rw [Q0j c2 (hl j c2)] at e
   cases e
  ·rw [Q1n c2] at e
   rw [out j c2]
   obtain ⟨h1,h2⟩:=S.ob j c fs e
   refine ⟨h1,fun p C dx fvs e1 e2=>?_⟩
   rw [h2 p C dx fvs e1 e2]
   exact Q5h fun q hq=>(out q.2 fun z=>by have:=h1 q hq; rw [S.nvt (hio q.2 z)] at this; cases this).symm
 ·rw [Q1n fun z=>by rw [hio j z] at hj; cases hj]
  exact S.vno j hj
theorem SR.noA (S:SR K Y F H δ σ A) (h:noS vs δ = true):∀ j ∈ vs,A j = []:=fun j hj=>S.slot j _ (Q1v h hj)
theorem Qb6 (h:noS vs δ = true):Vo vs δ = δ:=by
 apply List.ext_getElem?
 intro j
 by_cases c:j ∈ vs
 ·rw [Q1v h c,Q0j c (Q8.mp (Q1v h c)).1]
 ·rw [Q1n c]
end
def Q0m (T:Tt) (vs:List Nat) (c:List Sl → Option (Bool × List Sl)) (f:List Sl → Option (D × List Sl)):List D → List Sl → Option (List D × List Sl)
 | [],δ=>some ([],δ)
 | d :: r,δ=>(Vu T d δ).bind fun δ1=>(c δ1).bind fun p=>match p.1 with
  | true=>(f p.2).bind fun q=>(Q0m T vs c f r (Vo vs q.2)).map fun z=>(q.1 :: z.1,z.2)
  | false=>Q0m T vs c f r (Vo vs p.2)
def fLc (T:Tt) (vs:List Nat) (it:List Sl → Option (List D × List Sl)) (c:List Sl → Option (Bool × List Sl)) (f:List Sl → Option (D × List Sl)):List Sl → Option (D × List Sl):=fun δ=>(it δ).bind fun p =>
 if noS vs p.2 && decide (p.1.length ≤ sizeLine) then (Q0m T vs c f p.1 p.2).map fun q=>(.list q.1,q.2) else none
def Q0C:List Sl → Option (Bool × List Sl):=fun δ=>some (true,δ)
def TsV (X:Cx) (es:List Expr) (f:List Sl → Option (Bool × List Sl)) (M:List Nat):Prop :=
 ∃ t,PTs X es t ∧ ∀ (Y:Fx) (F H:Hp) (δ:List Sl) (σ:L2.St) (A:Nat → List Addr),SR X.K Y F H δ σ A → ∀ (b:Bool) (δ':List Sl),f δ = some (b,δ') → ∀ Q:Bool → Hp → Prop,
  (∀ F' H',Stp A M F H F' H' → SR X.K Y F' H' δ' σ A → Q b H') → t σ H Q
theorem Kf {X:Cx}:TsV X [] Q0C []:=by
 refine ⟨_,pts_nil,fun Y F H δ σ A S b δ' e Q k=>?_⟩
 cases e
 exact k F H Stp.refl S
theorem Q5m {X:Cx} {e:Expr} {f M} (h:TV X e f M):TsV X [e] f M:=by
 obtain ⟨t,p,q⟩:=h
 exact ⟨t,pts_one p,q⟩
theorem TsV.pts {X:Cx} {es:List Expr} {f M} (h:TsV X es f M):PTs X es (tTV X.K f M):=by
 obtain ⟨t,p,q⟩:=h
 refine ⟨fun pins s σ H Q I z=>?_⟩
 obtain ⟨Y,F,δ,A,d,δ',S,e1,k⟩:=z
 exact p.run pins s σ H Q I (q Y F H δ σ A S d δ' e1 Q k)
abbrev Bk (X:Cx) (scope:Scope) (s:Shared) (H:Hp) (C:Addr) (cl:List (Str × Addr)) (fp:List Addr):Cx:=X.blk s H scope (compEnvC scope cl C X.env) fp
theorem Qdr {X:Cx} {T:Tt} {vs:List Nat} {f c fe} {R M Mt Me:List Nat} {wi:TI}
  (hi:∀ (Y:Fx) (F H:Hp) (δ:List Sl) (σ:L2.St) (A:Nat → List Addr),SR X.K Y F H δ σ A → ∀ (ds:List D) (δ':List Sl),f δ = some (ds,δ') → ∀ Q:It → Hp → Prop,
   (∀ J F' H',Stp A M F H F' H' → SR X.K Y F' H' δ' σ A → Wk X.K F' (ex R A F' H') J ds → Q J H') → wi σ H Q)
  (hT:∀ j ∈ tS T,j ∈ vs) (dj:∀ i ∈ R,i ∉ Mt ++ Me:=by decide) (Y:Fx) (F H:Hp) (δ:List Sl) (σ:L2.St) (A:Nat → List Addr) (S:SR X.K Y F H δ σ A) (z:D) (δ':List Sl) (e:fLc T vs f c fe δ = some (z,δ')) (Q:VK)
  (k:∀ p F' H',Stp A (M ++ (Mt ++ Me)) F H F' H' → SR X.K Y F' H' δ' σ A → H p = none → F' p = none → Q0n X.K F' H' p z → Q (.ref p) H') :
  tLc wi (tGV X.K T) (tTV X.K c Mt) (tEV X.K fe [] Me) vs σ H Q:=by
 unfold fLc at e
 cases e1:f δ with
 | none=>rw [e1] at e; cases e
 | some w =>
  obtain ⟨ds,δ1⟩:=w
  rw [e1] at e
  simp only [Q1] at e
  split at e
  ·rename_i cn
   rw [Q5,decide_eq_true_eq] at cn
   obtain ⟨cn,csz⟩:=cn
   cases e2:Q0m T vs c fe ds δ1 with
   | none=>rw [e2] at e; cases e
   | some w =>
    obtain ⟨zs,δ2⟩:=w
    rw [e2] at e
    cases e
    refine hi Y F H δ σ A S ds δ1 e1 _ fun J F1 H1 st S1 wk=>?_
    intro p hp
    have hpF:F1 p = none:=S1.sub.free hp
    have hA:∀ j ∈ vs,A j = []:=S1.noA cn
    have hio:∀ j ∈ vs,Y.io j = false:=fun j hj=>by
     cases q:Y.io j with
     | false=>rfl
     | true=>exact absurd (Q1v cn hj) (S1.vno j q)
    have hl1:∀ j ∈ vs,j < δ1.length:=fun j hj=>(Q8.mp (Q1v cn hj)).1
    have Sw:SR X.K Y F1 H1 δ1 (wipe σ vs) A:=by
     have q:=S1.wiped (vs:=vs) (σ:=σ) rfl hA hio hl1
     rw [Qb6 cn] at q
     exact q
    -- the invariant
    let Inv_:Nat → Hp → Prop:=fun i H'=>∃ F' δ' zs' acc,Stp A (Mt ++ Me) F1 H1 F' H' ∧ SR X.K Y F' H' δ' (wipe σ vs) A ∧ H' p = some (.lst acc) ∧ F' p = none ∧ Rps X.K F' acc zs' ∧ acc.length ≤ i ∧ δ'.length = δ1.length ∧ noS vs δ' = true ∧
     ∃ zr,Q0m T vs c fe (ds.drop i) δ' = some (zr,δ2) ∧ zs = zs' ++ zr
    have start:Inv_ 0 (upd H1 p (.lst [])):=⟨F1,δ1,[],[],Stp.laidO hp,Sw.laidO hp,upd_same,hpF,.nil,Jf _,rfl,cn,zs,by rw [List.drop_zero]; exact e2,rfl⟩
    have seen:∀ {F' H' δ'},Stp A (Mt ++ Me) F1 H1 F' H' → SR X.K Y F' H' δ' (wipe σ vs) A → Same (ex R A F1 H1) H':=fun {F' H' δ'} st' S' a o ea=>by
     unfold ex at ea
     by_cases ca:∃ i ∈ R,a ∈ A i
     ·rw [if_pos ca] at ea
      obtain ⟨i,hi,ha⟩:=ca
      refine st'.kp a o ea fun j hj hz=>?_
      have:=S1.dis j i a hz ha
      subst this
      exact dj _ hi hj
     ·rw [if_neg ca] at ea
      exact S'.sub a o (st'.f a o ea)
    refine ⟨fun i m H'=>m = ds.length - i ∧ i ≤ ds.length ∧ Inv_ i H',⟨ds.length,by simp,Jo _,start⟩,?_⟩
    rintro i m H' ⟨rfl,hi,F',δ',zs',acc,st',S',hD,hDF,ra,hal,hl,hno,zr,ec,ezs⟩
    have nA:∀ j,p ∉ A j:=fun j hj=>S1.isSome hj hp
    by_cases hlt:i < ds.length
    ·have hd:ds.drop i = ds[i] :: ds.drop (i + 1):=List.drop_eq_getElem_cons hlt
     rw [hd] at ec
     unfold Q0m at ec
     cases e3:Vu T ds[i] δ' with
     | none=>rw [e3] at ec; cases ec
     | some δ3 =>
      rw [e3] at ec
      simp only [Q1] at ec
      cases e4:c δ3 with
      | none=>rw [e4] at ec; cases ec
      | some w =>
       obtain ⟨b,δ4⟩:=w
       rw [e4] at ec
       simp only [Q1] at ec
       refine .inr ⟨wk.go i H' hlt (seen st' S'),fun H2=>Inv_ (i + 1) H2,fun H2 h=>⟨ds.length - (i + 1),by omega,rfl,by omega,h⟩,fun x H2 y=>?_⟩
       have main:∀ F2,Stp A (Mt ++ Me) F1 H1 F2 H2 → Same F' F2 → SR X.K Y F2 H2 δ' (wipe σ vs) A → H2 p = some (.lst acc) → F2 p = none → Rp X.K F2 x ds[i] →
         tGV X.K T x (wipe σ vs) H2 fun σ2 H2=>wipe σ2 vs = wipe σ vs ∧ tTV X.K c Mt σ2 H2 fun b H3 =>
          if b = true then tEV X.K fe [] Me σ2 H3 fun y H4=>∃ acc,H4 p = some (.lst acc) ∧ acc.length < sizeLine ∧ Inv_ (i + 1) (upd H4 p (.lst (acc ++ [y]))) else Inv_ (i + 1) H3:=by
        intro F2 st2 s2 S2 hD2 hF2 r2
        refine ⟨Y,F2,δ',A,ds[i],δ3,fun j hj=>hio j (hT j hj),S2,r2,e3,fun σ3 A3 bt S3=>?_⟩
        have eA:A3 = A:=by
         funext j
         by_cases c:j ∈ tS T
         ·rw [bt.e j c,hA j (hT j c)]
         ·exact bt.a j c
        subst eA
        have hl3:σ3.length = (wipe σ vs).length:=by
         rw [← S3.len,← S2.len]
         exact Q2T e3
        have hw:wipe σ3 vs = wipe σ vs:=by
         have q:wipe σ3 vs = wipe (wipe σ vs) vs:=Q6R hl3 fun j hj=>bt.s j fun z=>hj (hT j z)
         rw [q]
         exact Q6R (wipe_length _ _) fun j hj=>Wc hj
        refine ⟨hw,Y,F2,δ3,A3,b,δ4,S3,e4,fun F3 H3 st3 S4=>?_⟩
        have st3':=(st2.trans S2 st3).mono (M':=Mt ++ Me) fun j hj=>by
         rcases Qc.mp hj with z | z
         ·exact z
         ·exact Q9 _ z
        have hD3:H3 p = some (.lst acc):=st3.kp p _ hD2 fun j _ hz=>nA j hz
        have hF3:F3 p = none:=by
         cases q:F3 p with
         | none=>rfl
         | some o =>
          have:=st3.nw p hF2 (by rw [q]; simp)
          rw [hD2] at this
          cases this
        have hl4:δ4.length = δ1.length:=by
         rw [S4.len,hl3,← S2.len]
         exact hl
        have hls4:∀ j ∈ vs,j < δ4.length:=fun j hj=>by rw [hl4]; exact hl1 j hj
        cases b with
        | false =>
         refine iteF ⟨F3,Vo vs δ4,zs',acc,st3',S4.wiped hw hA hio hls4,hD3,hF3,ra.mono (s2.trans st3.f),by omega,by rw [Kd]; exact hl4,?_,zr,ec,ezs⟩
         exact Qe.mpr fun j hj=>by rw [Q0j hj (hls4 j hj)]
        | true =>
         refine iteT ?_
         simp only at ec
         cases e5:fe δ4 with
         | none=>rw [e5] at ec; cases ec
         | some w =>
          obtain ⟨d,δ5⟩:=w
          rw [e5] at ec
          simp only [Q1] at ec
          cases e6:Q0m T vs c fe (ds.drop (i + 1)) (Vo vs δ5) with
          | none=>rw [e6] at ec; cases ec
          | some w =>
           obtain ⟨zr',δ6⟩:=w
           rw [e6] at ec
           simp only [Qi,Ja.injEq,Prod.mk.injEq] at ec
           obtain ⟨rfl,rfl⟩:=ec
           refine ⟨Y,F3,δ4,A3,d,δ5,S4,e5,fun v F4 H4 st4 S5 r4=>?_⟩
           have st4':=(st3'.trans S4 st4).mono (M':=Mt ++ Me) fun j hj=>by
            rcases Qc.mp hj with z | z
            ·exact z
            ·exact Qd _ z
           have hD4:H4 p = some (.lst acc):=st4.kp p _ hD3 fun j _ hz=>nA j hz
           have hF4:F4 p = none:=by
            cases q:F4 p with
            | none=>rfl
            | some o =>
             have:=st4.nw p hF3 (by rw [q]; simp)
             rw [hD3] at this
             cases this
           have hl5:δ5.length = δ1.length:=by
            rw [S5.len,hl3,← S2.len]
            exact hl
           have hls5:∀ j ∈ vs,j < δ5.length:=fun j hj=>by rw [hl5]; exact hl1 j hj
           have Sf:SR X.K Y F4 (upd H4 p (.lst (acc ++ [v]))) δ5 σ3 A3:=S5.upd_free hF4 nA (by
            cases q:Y.H0 p with
            | none=>rfl
            | some o=>rw [S1.fresh0 hp] at q; cases q)
           refine ⟨acc,hD4,by omega,F4,Vo vs δ5,zs' ++ [d],acc ++ [v],?_,Sf.wiped hw hA hio hls5,upd_same,hF4,((ra.mono ((s2.trans st3.f).trans st4.f)).append (.cons r4.nil .nil)),by rw [Qb]; simp; omega,by rw [Kd]; exact hl5,?_,zr',e6,by rw [ezs,List.append_assoc]; rfl⟩
           ·exact ⟨st4'.f,st4'.nw,fun a o ea hn=>by rw [upd_ne (ne_of_none ea hp)]; exact st4'.kp a o ea hn⟩
           ·exact Qe.mpr fun j hj=>by rw [Q0j hj (hls5 j hj)]
       have sE:=seen st' S'
       rcases wk.yld i H' x H2 _ sE y (Qa hlt) with ⟨rfl,r⟩ | ⟨U,xs,es,nU,rfl,rfl,e5,r⟩
       ·exact main F' st' (Same.refl _) S' hD hDF (r.mono st'.f)
       ·have l:=Stp.laid (M:=[]) (o:=.tup xs) S' nU
        have npU:p ≠ U:=ne_of_none hD nU
        refine main _ (Vj S' st' l) l.f (S'.laid nU) (by rw [upd_ne npU]; exact hD) (by rw [upd_ne npU]; exact hDF) ?_
        rw [e5]
        exact .tup (.inl (.inl upd_same)) (r.mono (st'.f.trans l.f))
    ·have hi2:i = ds.length:=by omega
     subst hi2
     rw [List.drop_length] at ec
     unfold Q0m at ec
     simp only [Ja.injEq,Prod.mk.injEq] at ec
     obtain ⟨rfl,rfl⟩:=ec
     rw [J4] at ezs
     subst ezs
     refine .inl ⟨wk.stop H' (seen st' S'),k p F' H' (st.trans S1 st') ?_ (Q6F st S1 hp) hDF ⟨acc,hD,ra⟩⟩
     -- the outer slots again
     refine ⟨by rw [S'.len,wipe_length],fun j t et=>?_,S'.out,S'.dis,S'.hid,S'.new,S'.sub,fun j h1=>?_,S'.ioA,S'.kp,S'.nw,S'.f0,S'.lio,fun j c0 fs0 eo=>?_,S'.vno⟩
     ·by_cases cj:j ∈ vs
      ·rw [Q1v hno cj] at et
       cases et
       exact hA j cj
      ·have:=S'.slot j t et
       rw [Wc cj] at this
       exact this
     ·have cj:j ∉ vs:=fun z=>by rw [S1.nlt (hio j z)] at h1; cases h1
      have:=S'.fix j h1
      rw [Wc cj] at this
      exact this
     ·have cj:j ∉ vs:=fun z=>by
       rw [Q1v hno z] at eo
       cases eo
      obtain ⟨h1,h2⟩:=S'.ob j c0 fs0 eo
      rw [Wc cj] at h2
      refine ⟨h1,fun p0 C0 dx0 fvs0 e10 e20=>?_⟩
      rw [h2 p0 C0 dx0 fvs0 e10 e20]
      exact Q5h fun q hq=>Wc fun z=>by have:=h1 q hq; rw [S.nvt (hio q.2 z)] at this; cases this
  ·cases e
section
variable {X:Cx} {T:Tt} {f c fe} {R M Mt Me:List Nat} {elt tg iter:Expr} {ifs:List Expr} {scope:Scope} {own:List (Str × Nat)} {pos:Pos}
theorem Q1L (hc:X.calm = true) (hN:X.N.Nodup) (hi:IV X tg iter f R M) (ok:BlkOk X.N X.env.scope scope own) (hg:∀ s H C cl fp,GV (Bk X scope s H C cl fp) tg T) (ht:∀ s H C cl fp,TsV (Bk X scope s H C cl fp) ifs c Mt) (he:∀ s H C cl fp,EV (Bk X scope s H C cl fp) elt fe [] Me)
  (hs:∀ x,foldedSetIterable iter X.env x = pure x:=by intro _; rfl) (hT:∀ j ∈ tS T,j ∈ own.map (·.2):=by decide) (dj:∀ i ∈ R,i ∉ Mt ++ Me:=by decide):NV X (.ListComp elt [⟨tg,iter,ifs,0⟩] scope pos) (fLc T (own.map (·.2)) f c fe) (M ++ (Mt ++ Me)):=by
 obtain ⟨wi,pw,qi⟩:=hi
 refine ⟨_,pe_lc (g:=tGV X.K T) (tt:=tTV X.K c Mt) (te:=tEV X.K fe [] Me) hc hN pw ok (fun s H C cl fp=>(hg s H C cl fp).pg) (fun s H C cl fp=>(ht s H C cl fp).pts) (fun s H C cl fp=>(he s H C cl fp).pe) hs,fun Y F H δ σ A S z δ' e Q k=>?_⟩
 exact Qdr qi hT dj Y F H δ σ A S z δ' e Q k
theorem QcS {io:Iom} {fr:Fr} {i:Nat} {y:Str} {py spos:Pos} (hc:X.calm = true) (hN:X.N.Nodup) (hy:X.N[i]? = some y) (hyl:X.env.scope.names.lookup y = some .local) (hsw:swapsWith (.ListComp elt [⟨tg,iter,ifs,0⟩] scope pos) (some (.Name y py)) spos.line X.env = pure true)
  (hi:IV X tg iter f R M) (ok:BlkOk X.N X.env.scope scope own) (hg:∀ s H C cl fp,GV (Bk X scope s H C cl fp) tg T) (ht:∀ s H C cl fp,TsV (Bk X scope s H C cl fp) ifs c Mt) (he:∀ s H C cl fp,EV (Bk X scope s H C cl fp) elt fe [] Me)
  (hs:∀ x,foldedSetIterable iter X.env x = pure x:=by intro _; rfl) (hT:∀ j ∈ tS T,j ∈ own.map (·.2):=by decide) (dj:∀ i ∈ R,i ∉ Mt ++ Me:=by decide) (hio:io i = false):SV X io fr (.Assign [.Name y py] (.ListComp elt [⟨tg,iter,ifs,0⟩] scope pos) spos) (Q1c i (fLc T (own.map (·.2)) f c fe)):=by
 obtain ⟨wi,pw,qi⟩:=hi
 refine ⟨_,ps_setLc (g:=tGV X.K T) (tt:=tTV X.K c Mt) (te:=tEV X.K fe [] Me) hc hN hy hyl hsw pw ok (fun s H C cl fp=>(hg s H C cl fp).pg) (fun s H C cl fp=>(ht s H C cl fp).pts) (fun s H C cl fp=>(he s H C cl fp).pe) hs,fun Y F H δ σ A hY S o e D k=>?_⟩
 unfold Q1c at e
 cases e1:fLc T (own.map (·.2)) f c fe δ with
 | none=>rw [e1] at e; cases e
 | some w =>
  obtain ⟨d,δ1⟩:=w
  rw [e1] at e
  simp only [Q1] at e
  split at e
  ·rename_i hi
   cases e
   refine Qdr qi hT dj Y F H δ σ A S d δ1 e1 _ fun p F1 H1 st S1 n hF r=>?_
   exact k _ F1 H1 _ st.f (S1.putOw hi (by rw [hY]; exact hio) (S.fresh0 n) hF (fun j hj=>S.isSome hj n) r)
  ·cases e
end
end Z
namespace Z
open PySem PySem.Spec PyProof.Rows L2
structure FnG (P:Program) (w:World) (K:PySem.W.Frag) (mg:Str → Option Value) (base:Heap) (CX:CXT) (k:Nat) (f:Addr) (fd:FuncData) (ps:List Str) (sp:Sp):Prop where
 len:∀ us G Q E,sp us G Q E → us.length = ps.length
 run:∀ (A:Around) (out:List Env) (s:Shared) (G:Hp) (ar:Args) (ws:List Value) (us:List V) (Q:VK) (E:XK),A.guards = some [] → Room k A → Env0 P w K mg base A out s G → BindsTo s fd ar (ps.zip ws) → Vals us ws → sp us G Q E →
  codeAny (model P w) A (.call (.ref f) ar) (CR CX out P w G s Q E) s
section
variable {P:Program} {w:World} {K:PySem.W.Frag} {mg:Str → Option Value} {base:Heap} {CX:CXT} {k:Nat} {f:Addr} {fd:FuncData} {ps:List Str} {sp:Sp}
theorem FnG.mk' {x qual:Str} {st:Stmt} {N:List Str} (Fu:Fun K x qual st f fd) (S:FnScope N ps (defScope st)) (len:∀ us G Q E,sp us G Q E → us.length = ps.length)
  (body:∀ (cd:Value) (A:Around) (out:List Env) (s:Shared) (G:Hp) (us:List V) (Q:VK) (E:XK),A.guards = some [] → Room k (A.deeper (envOfC qual (defScope st) s.heap.objs.size f cd)) → sp us G Q E →
   ∃ t,PSs (cxOf CX P w K mg base N qual (defScope st) f cd A out s G E) (defBody st) t ∧ t { nx:=fun _ G'=>Q .non G',rt:=Q } (start N us) G):FnG P w K mg base CX (k + 1) f fd ps sp:=by
 obtain ⟨oc,od,kV,doc,pm,an,cd,ct,osl,rfl,lk,hcd⟩:=Fu.ex
 refine ⟨len,?_⟩
 intro A out s G ar ws us Q E hG hR e0 hb hv hsp
 have n:=len _ _ _ _ hsp
 have inK:K.In s.heap:=e0.mod.kin.keeps (fun b o e=>(e0.bs b o e).1)
 have room:s.heap.NoLimit:=e0.mod.nolimit.keeps (fun b o e=>(e0.bs b o e).1)
 have kinds:∀ y ∈ ps.zip ws,(defScope st).names.lookup y.1 = some .local ∨ ((defScope st).names.lookup y.1 = some .cell ∧ ((cellsFrom (s.heap.objs.size + 1) (defScope st).names []).lookup y.1).isSome = true):=by
  rintro ⟨m,v⟩ hy
  rcases S.par m (List.of_mem_zip hy).1 with q | q
  ·exact .inl q
  ·exact .inr ⟨q,PySem.W.cellsFrom_some _ _ _ (.inl q)⟩
 refine codeAny_call_function hR.depth (inK _ _ lk) rfl S.co S.gen rfl (PySem.W.codeRec_of inK hcd) (hb _ _ _ _ ?_)
 refine wpAny_newFunctionEnv_cells S.kind kinds fun env he s1 x=>?_
 subst he
 refine ⟨room.keeps x.toInCall.keep,codeAny_func ?_⟩
 obtain ⟨t,ht,hq⟩:=body cd A out s G us Q E hG (hR.deeper _) hsp
 have J0:=inv_start (CX:=CX) (E:=E) S hR.hd e0 n hv x
 refine wpAny_mono (ht.run [] s1 (start N us) G _ J0 hq) (fun fl s2 hs=>?_) (fun _ _ hs=>hs)
 cases fl with
 | ret u =>
  obtain ⟨v,σ2,G2,J,rv,q⟩:=hs
  exact ⟨v,G2,J.os,J.bare,J.base,J.hok,rv,q⟩
 | next =>
  obtain ⟨σ2,G2,J,q⟩:=hs
  exact ⟨.non,G2,J.os,J.bare,J.base,J.hok,rfl,q⟩
 | brk =>
  obtain ⟨_,_,_,q⟩:=hs
  exact q.elim
 | cont =>
  obtain ⟨_,_,_,q⟩:=hs
  exact q.elim
end
section
variable {X:Cx} {CX:CXT} {k:Nat} {f:Addr} {fd:FuncData} {ps:List Str} {sp:Sp} {E:XK} {x:Str} {p pos:Pos} {e:Expr} {es:List Expr} {t:TA}
theorem FnG.pe (Fn:FnG X.prog X.w X.K X.mg X.base CX k f fd ps sp) (hG:X.A.guards = some []) (hR:Room k X.A) (gl:Gl X x) (m:X.mg x = some (.ref f)) (kp:PySem.W.keepIn X.K (.ref f) = true) (hb:Binds X.K fd ps []) (hx:Passes CX X E)
  (ha:PA X (e :: es) t) (db:(x == ("__debug__":Str)) = false) (h1:starEach (e :: es) X.env = (false,eval e X.env) :: starEach es X.env) (h2:(backTo pos (starEach es X.env)).any (·.1) = false) :
  PE X (.Call (.Name x p) (e :: es) [] pos) (tCall sp [] E t):=by
 constructor
 intro pins s σ G Q I h
 refine wpAny_Call_Name_kw (ld_glob I gl m ?_ db)
 refine PySem.W.callWith_K (h₀:=X.base) I.ok.mod.kin kp (thn (ha.run pos pins s σ G _ I h) ?_) h1 h2
 rintro ws s1 ⟨us,G1,I1,r,q⟩
 refine ⟨I1.kIn,?_⟩
 rw [J4] at q
 have n:=Fn.len _ _ _ _ q
 have n2:(ws ++ []).length = ps.length:=by rw [J4,← r.length]; exact n
 have b:=hb s1 ws I1.kIn n2
 rw [J4] at b
 refine wpAny_call (codeAny_mono (Fn.run X.A X.stack s1 G1 ⟨ws,[]⟩ ws us Q E hG hR I1.env0 b r q) ?_)
 intro res s2 hq
 cases res with
 | error er=>exact hx pins σ G1 s1 er s2 I1 hq
 | ok fl =>
  cases fl with
  | ret u=>exact I1.after hq
  | next=>exact hq.elim
  | brk=>exact hq.elim
  | cont=>exact hq.elim
end
def Z6:Sl → Bool
 | .ow _=>true
 | .lk _=>true
 | .dk _ _ _=>true
 | .ob _ _=>true
 | .dl _=>true
 | _=>false
def Q31:Sl → Bool
 | .ob _ _=>true
 | _=>false
def Q0V (s:Sl):Bool:=Z6 s && !Q31 s
theorem Q7h {s:Sl} (h:Q0V s = true):Z6 s = true:=by
 unfold Q0V at h
 rw [Q5] at h
 exact h.1
def Ret (K:PySem.W.Frag) (A:Nat → List Addr) (fr:Fr) (H F' H':Hp) (v:V) (d:D):Prop :=
 match fr with
 | .n=>Rp K F' v d
 | .t=>PlT K F' v d
 | .l=>∃ p,v = .ref p ∧ H p = none ∧ F' p = none ∧ Q0n K F' H' p d
 | .p=>∃ a p q d0 d1,v = .ref a ∧ d = .tuple [d0,d1] ∧ H' a = some (.tup [.ref p,.ref q]) ∧ p ≠ q ∧ (H p = none ∧ F' p = none ∧ Q0n K F' H' p d0) ∧ H q = none ∧ F' q = none ∧ Q0n K F' H' q d1
 | .s j=>∃ p,v = .ref p ∧ A j = [p]
def spF (K:PySem.W.Frag) (n:Nat) (fr:Fr) (φ:List Sl → Option (D × List Sl)):Sp:=fun us H Q _ =>
 ∃ (F:Hp) (as:List Sl) (A:Nat → List Addr),as.length = n ∧ SR K Fx.any F H as (us.map some) A ∧ ∃ d outs,φ as = some (d,outs) ∧
  ∀ v F' H',Stp A (Jj n) F H F' H' → SR K Fx.any F' H' outs (us.map some) A → Ret K A fr H F' H' v d → Q v H'
theorem Qgx {K:PySem.W.Frag} {n:Nat} {fr:Fr} {φ} {us:List V} {H:Hp} {Q:VK} {E:XK} (h:spF K n fr φ us H Q E):us.length = n:=by
 obtain ⟨F,as,A,hn,S,_⟩:=h
 have:=S.len
 rw [Q4] at this
 omega
def Ke:List Sl → List Sl → Option (List Sl)
 | [],_=>some []
 | a :: r,b :: s=>match Z6 a with
  | true=>match Q0V b with
   | true=>(Ke r s).map (b :: ·)
   | false=>none
  | false=>(Ke r s).map (a :: ·)
 | _ :: _,[]=>none
def Q4M (sg:List Bool) (as:List Sl):Bool:=decide (as.map Z6 = sg) && as.all fun a=>!Q31 a
theorem Q8E {sg:List Bool} {as:List Sl} (h:Q4M sg as = true):as.map Z6 = sg:=by
 unfold Q4M at h
 rw [Q5] at h
 exact of_decide_eq_true h.1
def fnF (sg:List Bool) (m:Nat) (fr:Fr) (g:List Sl → Option Out):List Sl → Option (D × List Sl):=fun as =>
 if Q4M sg as then
  match g (as ++ Qn (m - sg.length) .no) with
  | some (.rt d δ)=>(Ke as δ).map fun o=>(d,o)
  | some (.nx δ)=>match fr with
   | .n=>(Ke as δ).map fun o=>(.none,o)
   | _=>none
  | _=>none
 else none
theorem Q26:∀ {as δ o:List Sl},Ke as δ = some o → o.length = as.length
 | [],_,_,h=>by cases h; rfl
 | a :: r,b :: s,o,h=>by
  unfold Ke at h
  split at h
  ·split at h
   ·cases e:Ke r s with
    | none=>rw [e] at h; cases h
    | some z=>rw [e] at h; cases h; exact congrArg (· + 1) (Q26 e)
   ·cases h
  ·cases e:Ke r s with
   | none=>rw [e] at h; cases h
   | some z=>rw [e] at h; cases h; exact congrArg (· + 1) (Q26 e)
 | _ :: _,[],_,h=>by cases h
theorem Q2G:∀ {as δ o:List Sl} {i:Nat} {a:Sl},Ke as δ = some o → as[i]? = some a → (Z6 a = true ∧ ∃ b,δ[i]? = some b ∧ Q0V b = true ∧ o[i]? = some b) ∨ (Z6 a = false ∧ o[i]? = some a)
 | [],_,_,_,_,_,e=>by simp at e
 | a :: r,b :: s,o,i,c,h,e=>by
  unfold Ke at h
  split at h
  ·rename_i ha
   split at h
   ·rename_i hb
    cases e1:Ke r s with
    | none=>rw [e1] at h; cases h
    | some z =>
     rw [e1] at h
     cases h
     cases i with
     | zero=>cases e; exact .inl ⟨ha,b,rfl,hb,rfl⟩
     | succ i=>exact Q2G (i:=i) e1 e
   ·cases h
  ·rename_i ha
   cases e1:Ke r s with
   | none=>rw [e1] at h; cases h
   | some z =>
    rw [e1] at h
    cases h
    cases i with
    | zero =>
     cases e
     refine .inr ⟨?_,rfl⟩
     cases q:Z6 a with
     | false=>rfl
     | true=>exact absurd q (by simpa using ha)
    | succ i=>exact Q2G (i:=i) e1 e
 | _ :: _,[],_,_,_,h,_=>by cases h
def Ka (sg:List Bool) (i:Nat):Bool:=sg.getD i false
section
variable {K:PySem.W.Frag} {F H F' H':Hp} {as:List Sl} {us:List V} {A:Nat → List Addr}
theorem Q3L {s:Sl} {v:Option V} {B:List Addr} (h:Q0Z K F H s v B) (n:Z6 s = false):B = []:=by
 cases s with
 | no=>exact h
 | fz d=>exact h.1
 | ow d=>cases n
 | lk d=>cases n
 | dk _ _ _=>cases n
 | ob _ _=>cases n
 | dl _=>cases n
 | ab=>exact h.1
 | xv _=>exact h.1
 | scr _=>exact h.1
theorem SR.entry {sg:List Bool} {N:List Str} (S:SR K Fx.any F H as (us.map some) A) (h:Q4M sg as = true) (hN:sg.length ≤ N.length) :
  SR K ⟨Iom.of (Ka sg),Ka sg,fun _=>false,H,F,start N us,A,fun _ z=>Bool.noConfusion z⟩ F H (as ++ Qn (N.length - sg.length) .no) (start N us) A:=by
 have hsg:as.map Z6 = sg:=Q8E h
 have l1:as.length = sg.length:=by rw [← hsg,Q4]
 have l2:as.length = us.length:=by have:=S.len; rwa [Q4] at this
 have own:∀ i a,as[i]? = some a → Ka sg i = Z6 a:=fun i a e=>by
  unfold Ka
  rw [← hsg,Jp,Qp,e]
  rfl
 have ino:∀ i,Ka sg i = true → ∃ a,as[i]? = some a ∧ Z6 a = true:=fun i h=>by
  cases e:as[i]? with
  | none =>
   unfold Ka at h
   rw [← hsg,Jp,Qp,e] at h
   cases h
  | some a=>exact ⟨a,rfl,by rw [← own i a e]; exact h⟩
 refine ⟨?_,fun i s e=>?_,fun i e=>?_,S.dis,S.hid,fun i a ha hi=>?_,S.sub,fun i _=>⟨rfl,rfl⟩,fun i hi=>?_,fun _ _ e _=>e,fun _ e n=>absurd e n,Same.refl _,fun _ h=>h.elim id (fun z=>(by cases z)),fun i c fs e=>?_,fun i hi e=>?_⟩
 ·unfold L2.start
  rw [Qb,Ju,Qb,Q4,Ju]
  omega
 ·by_cases c:i < as.length
  ·rw [Qm c] at e
   have:=S.slot i s e
   unfold L2.start
   rw [Qm (by rw [Q4]; omega)]
   exact this
  ·rw [J1 (by omega),X3] at e
   split at e
   ·cases e
    exact S.out i (Qz (by omega))
   ·cases e
 ·have:as.length ≤ i:=by
   have:=Jd.mp e
   rw [Qb] at this
   omega
  exact S.out i (Qz this)
 ·cases e:as[i]? with
  | none=>rw [S.out i e] at ha; simp at ha
  | some s =>
   rw [Q3L (S.slot i s e) (by rw [← own i s e]; exact hi)] at ha
   simp at ha
 ·exact trivial
 ·by_cases c:i < as.length
  ·rw [Qm c] at e
   obtain ⟨h1,h2⟩:=S.ob i _ fs e
   have hfs:fs = []:=by
    cases fs with
    | nil=>rfl
    | cons q r=>cases h1 q Q7
   subst hfs
   refine ⟨by simp,fun p C dx fvs e1 e2=>h2 p C dx fvs ?_ e2⟩
   unfold L2.start at e1
   rw [Qm (by rw [Q4]; omega)] at e1
   exact e1
  ·rw [J1 (by omega),X3] at e
   split at e <;> cases e
 ·obtain ⟨a,e1,ho⟩:=ino i hi
  have c:=(Q8.mp e1).1
  rw [Qm c,e1] at e
  cases e
  cases ho
theorem SR.leave {sg:List Bool} {N:List Str} {δ' outs:List Sl} {σ':L2.St} {A':Nat → List Addr} (S:SR K Fx.any F H as (us.map some) A) (h:Q4M sg as = true) (hN:sg.length ≤ N.length) (S':SR K ⟨Iom.of (Ka sg),Ka sg,fun _=>false,H,F,start N us,A,fun _ z=>Bool.noConfusion z⟩ F' H' δ' σ' A') (hm:Ke as δ' = some outs) :
  Stp A (Jj sg.length) F H F' H' ∧ SR K Fx.any F' H' outs (us.map some) A:=by
 have hsg:as.map Z6 = sg:=Q8E h
 have l1:as.length = sg.length:=by rw [← hsg,Q4]
 have l2:as.length = us.length:=by have:=S.len; rwa [Q4] at this
 have own:∀ i a,as[i]? = some a → Ka sg i = Z6 a:=fun i a e=>by
  unfold Ka
  rw [← hsg,Jp,Qp,e]
  rfl
 have nul:∀ i,Ka sg i = false → A i = []:=fun i hi=>by
  cases e:as[i]? with
  | none=>exact S.out i e
  | some s=>exact Q3L (S.slot i s e) (by rw [← own i s e]; exact hi)
 have lo:=Q26 hm
 have eqA:∀ i,Ka sg i = true → A' i = A i:=fun i hi=>(S'.fix i hi).2
 have small:∀ i,Ka sg i = true → i < sg.length:=fun i hi=>by
  cases Nat.lt_or_ge i sg.length with
  | inl h=>exact h
  | inr h =>
   unfold Ka at hi
   rw [Jp,Qz h] at hi
   cases hi
 refine ⟨⟨S'.f0,S'.nw,fun a o e n=>S'.kp a o e fun i hi z=>n i (List.mem_range.mpr (small i hi)) z⟩,?_⟩
 refine ⟨by rw [lo]; exact S.len,fun i s e=>?_,fun i e=>?_,S.dis,fun i a ha=>?_,fun _ _ _ _=>rfl,S'.sub,fun i hi=>?_,fun i hi=>?_,fun _ _ e=>?_,fun _ _ _=>rfl,fun _ _ e=>?_,fun _ h=>(by rcases h with h | h <;> cases h),fun i c fs e=>?_,fun _ h=>by cases h⟩
 ·have hi:i < as.length:=by rw [← lo]; exact (Q8.mp e).1
  obtain ⟨a,ea⟩:∃ a,as[i]? = some a:=⟨_,Qa hi⟩
  rcases Q2G hm ea with ⟨h1,b,h2,h3,h4⟩ | ⟨h1,h2⟩
  ·rw [e] at h4
   cases h4
   have io:Ka sg i = true:=by rw [own i a ea]; exact h1
   have q:=S'.slot i s h2
   obtain ⟨f1,f2⟩:=S'.fix i io
   rw [f1,f2] at q
   have:(start N us)[i]? = (us.map some)[i]?:=by
    unfold L2.start
    rw [Qm (by rw [Q4]; omega)]
   rw [show (⟨Iom.of (Ka sg),Ka sg,fun _=>false,H,F,start N us,A,fun _ z=>Bool.noConfusion z⟩:Fx).σ0 = start N us from rfl,this] at q
   exact q
  ·rw [e] at h2
   cases h2
   have io:Ka sg i = false:=by rw [own i s ea]; exact h1
   refine (S.slot i s ea).mono S'.f0 fun a ha=>?_
   rw [nul i io] at ha
   simp at ha
 ·exact S.out i (Qz (by rw [← lo]; exact Jd.mp e))
 ·cases c:Ka sg i with
  | true =>
   rw [← eqA i c] at ha
   exact S'.hid i a ha
  | false =>
   rw [nul i c] at ha
   simp at ha
 ·cases hi
 ·cases hi
 ·cases e
 ·cases e
 ·have hi:i < as.length:=by rw [← lo]; exact (Q8.mp e).1
  obtain ⟨a,ea⟩:∃ a,as[i]? = some a:=⟨_,Qa hi⟩
  rcases Q2G hm ea with ⟨h1,b,h2,h3,h4⟩ | ⟨h1,h2⟩
  ·rw [e] at h4
   cases h4
   cases h3
  ·rw [e] at h2
   cases h2
   cases h1
end
section
variable {P:Program} {w:World} {K:PySem.W.Frag} {mg:Str → Option Value} {base:Heap} {CX:CXT} {k:Nat} {f:Addr} {fd:FuncData} {ps:List Str}
theorem Wy {x qual:Str} {st:Stmt} {N:List Str} {sg:List Bool} {fr:Fr} {g:List Sl → Option Out} (Fu:Fun K x qual st f fd) (S:FnScope N ps (defScope st)) (hl:sg.length = ps.length)
  (body:∀ (cd:Value) (A:Around) (out:List Env) (s:Shared) (G:Hp) (E:XK),A.guards = some [] → Room k (A.deeper (envOfC qual (defScope st) s.heap.objs.size f cd)) → BV (cxOf CX P w K mg base N qual (defScope st) f cd A out s G E) (Iom.of (Ka sg)) fr (defBody st) g) :
  FnG P w K mg base CX (k + 1) f fd ps (spF K ps.length fr (fnF sg N.length fr g)):=by
 have hN:sg.length ≤ N.length:=by
  rw [hl]
  have:=congrArg List.length S.pre
  rw [Jr] at this
  omega
 refine FnG.mk' Fu S (fun us G Q E h=>Qgx h) fun cd A out s G us Q E hG hR h=>?_
 obtain ⟨t,p,q⟩:=body cd A out s G E hG hR
 refine ⟨t,p,?_⟩
 obtain ⟨F,as,B,hn,S0,d,outs,hφ,kk⟩:=h
 unfold fnF at hφ
 split at hφ
 ·rename_i ok
  have S1:=S0.entry ok hN
  cases e:g (as ++ Qn (N.length - sg.length) .no) with
  | none=>rw [e] at hφ; cases hφ
  | some o =>
   rw [e] at hφ
   refine q ⟨Iom.of (Ka sg),Ka sg,fun _=>false,G,F,start N us,B,fun _ z=>Bool.noConfusion z⟩ F G _ (start N us) B rfl S1 o e _ ?_
   cases o with
   | rt d1 δ1 =>
    simp only at hφ
    cases e2:Ke as δ1 with
    | none=>rw [e2] at hφ; cases hφ
    | some o =>
     rw [e2] at hφ
     cases hφ
     intro v σ' F' G' B' sF S2 r
     obtain ⟨st',S3⟩:=S0.leave ok hN S2 e2
     rw [hl] at st'
     refine kk v F' G' st' S3 ?_
     cases fr with
     | n=>exact r
     | t=>exact r
     | l =>
      obtain ⟨p',rv,h0,hF,_,ow⟩:=r
      exact ⟨p',rv,h0,hF,ow⟩
     | p =>
      obtain ⟨a',p',q',d0,d1,rv,rd,ha,ne,⟨h0,hF,_,ow⟩,h1,hF1,_,ow1⟩:=r
      exact ⟨a',p',q',d0,d1,rv,rd,ha,ne,⟨h0,hF,ow⟩,h1,hF1,ow1⟩
     | s j =>
      obtain ⟨_,hio,p',rv,ha⟩:=r
      exact ⟨p',rv,(S2.fix j hio).2.symm.trans ha⟩
   | nx δ1 =>
    cases fr with
    | l=>cases hφ
    | t=>cases hφ
    | p=>cases hφ
    | s j=>cases hφ
    | n =>
     simp only at hφ
     cases e2:Ke as δ1 with
     | none=>rw [e2] at hφ; cases hφ
     | some o =>
      rw [e2] at hφ
      cases hφ
      intro σ' F' G' B' sF S2
      obtain ⟨st',S3⟩:=S0.leave ok hN S2 e2
      rw [hl] at st'
      exact kk .non F' G' st' S3 .non
   | ct δ1=>cases hφ
 ·cases hφ
end
end Z
namespace Z
open PySem PySem.Spec PyProof.Rows L2
inductive Ar where
 | d (d:D)
 | io (i:Nat)
def ArR (K:PySem.W.Frag) (F H:Hp) (A:Nat → List Addr) (R:List Nat) (σ:L2.St):List V → List Ar → Prop
 | [],[]=>True
 | v :: vs,.d d :: r=>Vw K F H A R v d ∧ ArR K F H A R σ vs r
 | v :: vs,.io i :: r=>σ[i]? = some (some v) ∧ ArR K F H A R σ vs r
 | _,_=>False
def CV (X:Cx) (es:List Expr) (f:List Sl → Option (List Ar × List Sl)) (R M:List Nat):Prop :=
 ∃ t,PA X es t ∧ ∀ (Y:Fx) (F H:Hp) (δ:List Sl) (σ:L2.St) (A:Nat → List Addr),SR X.K Y F H δ σ A → ∀ (as:List Ar) (δ':List Sl),f δ = some (as,δ') → ∀ Q:List V → Hp → Prop,
  (∀ vs F' H',Stp A M F H F' H' → SR X.K Y F' H' δ' σ A → ArR X.K F' H' A R σ vs as → Q vs H') → t σ H Q
def V2:List Sl → Option (List Ar × List Sl):=fun δ=>some ([],δ)
def Y8 (fa:List Sl → Option (D × List Sl)) (fr:List Sl → Option (List Ar × List Sl)):List Sl → Option (List Ar × List Sl):=fun δ=>(fa δ).bind fun p=>(fr p.2).map fun q=>(.d p.1 :: q.1,q.2)
def Q7q (i:Nat) (δ:List Sl):Bool:=match δ[i]? with
 | some s=>Q0V s
 | none=>false
def kIo (i:Nat) (fr:List Sl → Option (List Ar × List Sl)):List Sl → Option (List Ar × List Sl):=fun δ=>if Q7q i δ then (fr δ).map fun q=>(.io i :: q.1,q.2) else none
section
variable {X:Cx}
theorem ArR.mono {K:PySem.W.Frag} {F H:Hp} {A:Nat → List Addr} {R R':List Nat} {σ:L2.St} (s:∀ i ∈ R,i ∈ R'):∀ {vs:List V} {as:List Ar},ArR K F H A R σ vs as → ArR K F H A R' σ vs as
 | [],[],_=>trivial
 | v :: vs,.d d :: r,⟨h,t⟩=>⟨h.mono s,ArR.mono s t⟩
 | v :: vs,.io i :: r,⟨h,t⟩=>⟨h,ArR.mono s t⟩
 | [],_ :: _,h=>h.elim
 | _ :: _,[],h=>h.elim
theorem Qf6:CV X [] V2 [] []:=by
 refine ⟨_,pa_nil,fun Y F H δ σ A S d' δ' e Q k=>?_⟩
 cases e
 exact k _ _ _ Stp.refl S trivial
theorem Q90 {a:Expr} {es:List Expr} {fa fr} {Ra Rr Ma Mr:List Nat} (ha:EV X a fa Ra Ma) (hr:CV X es fr Rr Mr) (dj:∀ i ∈ Ra,i ∉ Mr:=by decide) (hs:starEach (a :: es) X.env = (false,eval a X.env) :: starEach es X.env:=by rfl):CV X (a :: es) (Y8 fa fr) (Ra ++ Rr) (Ma ++ Mr):=by
 obtain ⟨ta,pa,qa⟩:=ha
 obtain ⟨tb,pb,qb⟩:=hr
 refine ⟨_,pa_cons pa pb hs,fun Y F H δ σ A S ds δ' e Q k=>?_⟩
 unfold Y8 at e
 cases e1:fa δ with
 | none=>rw [e1] at e; cases e
 | some p =>
  obtain ⟨d,δ1⟩:=p
  rw [e1] at e
  simp only [Q1] at e
  cases e2:fr δ1 with
  | none=>rw [e2] at e; cases e
  | some q =>
   obtain ⟨r,δ2⟩:=q
   rw [e2] at e
   cases e
   refine qa Y F H δ σ A S d δ1 e1 _ fun x F1 H1 st1 S1 r1=>?_
   refine qb Y F1 H1 δ1 σ A S1 r _ e2 _ fun y F2 H2 st2 S2 r2=>?_
   exact k _ F2 H2 (st1.trans S1 st2) S2 ⟨(r1.step S1 st2 dj).mono fun i hi=>Q9 _ hi,r2.mono fun i hi=>Qd _ hi⟩
theorem QcW {K:PySem.W.Frag} {F H:Hp} {s:Sl} {v:Option V} {B:List Addr} (h:Q0Z K F H s v B) (n:Z6 s = true):∃ p,v = some (.ref p):=by
 cases s with
 | no=>cases n
 | fz d=>cases n
 | ow d=>obtain ⟨p,e,_⟩:=h; exact ⟨p,e⟩
 | lk d=>obtain ⟨p,e,_⟩:=h; exact ⟨p,e⟩
 | dk _ _ _=>obtain ⟨p,q,e,_⟩:=h; exact ⟨p,e⟩
 | ob _ _=>obtain ⟨p,q,_,_,e,_⟩:=h; exact ⟨p,e⟩
 | dl _=>obtain ⟨p,q,_,e,_⟩:=h; exact ⟨p,e⟩
 | ab=>cases n
 | xv _=>cases n
 | scr _=>cases n
theorem Qi5 {i:Nat} {x:Str} {pos:Pos} {es:List Expr} {fr} {R M:List Nat} (n:Nm X i x) (hr:CV X es fr R M) (hs:starEach (.Name x pos :: es) X.env = (false,eval (.Name x pos) X.env) :: starEach es X.env:=by rfl):CV X (.Name x pos :: es) (kIo i fr) R M:=by
 obtain ⟨tb,pb,qb⟩:=hr
 refine ⟨_,pa_cons n.pe pb hs,fun Y F H δ σ A S ds δ' e Q k=>?_⟩
 unfold kIo at e
 split at e
 ·rename_i ho
  cases e2:fr δ with
  | none=>rw [e2] at e; cases e
  | some q =>
   obtain ⟨r,δ2⟩:=q
   rw [e2] at e
   cases e
   unfold Q7q at ho
   split at ho
   ·rename_i s hs'
    obtain ⟨p,ep⟩:=QcW (S.slot i s hs') (Q7h ho)
    refine ⟨.ref p,Wh ep,?_⟩
    exact qb Y F H δ σ A S r _ e2 _ fun y F2 H2 st2 S2 r2=>k _ F2 H2 st2 S2 ⟨Wh ep,r2⟩
   ·cases ho
 ·cases e
def ios:List Ar → List Nat
 | []=>[]
 | .d _ :: r=>ios r
 | .io i :: r=>i :: ios r
def Q9h (δ:List Sl):Ar → Sl
 | .d d=>.fz d
 | .io i=>δ[i]?.getD .no
def Kw:List Ar → List Sl → List Sl → List Sl
 | .io i :: r,b :: s,δ=>Kw r s (δ.set i b)
 | .d _ :: r,_ :: s,δ=>Kw r s δ
 | _,_,δ=>δ
def Qeb:Sl → Bool
 | .dk _ _ _=>true
 | _=>false
def Q4q (R:List Nat) (δ:List Sl) (as:List Ar):Bool:=decide ((ios as).Nodup) && (ios as).all (fun i=>Q7q i δ && !(R.contains i) && (R.isEmpty || (match δ[i]? with | some s=>Qeb s | none=>false)))
def Q0D (R:List Nat):List Ar → List Sl → Bool
 | .io _ :: r,b :: s=>Q0V b && (R.isEmpty || Qeb b) && Q0D R r s
 | .d _ :: r,_ :: s=>Q0D R r s
 | [],[]=>true
 | _,_=>false
def Yh (R:List Nat) (flat:Bool) (φ:List Sl → Option (D × List Sl)) (f:List Sl → Option (List Ar × List Sl)):List Sl → Option (D × List Sl):=fun δ=>(f δ).bind fun p =>
 if Q4q R p.2 p.1 then (φ (p.1.map (Q9h p.2))).bind fun q=>if Q0D R p.1 q.2 && (R.isEmpty || (flat && noL q.1)) then some (q.1,Kw p.1 q.2 p.2) else none else none
end
section
variable {K:PySem.W.Frag} {Y:Fx} {F H:Hp} {δ:List Sl} {σ:L2.St} {A:Nat → List Addr} {R:List Nat}
def Q0X (A:Nat → List Addr) (as:List Ar):Nat → List Addr:=fun j=>match as[j]? with
 | some (.io i)=>A i
 | _=>[]
theorem Kh {as:List Ar} {i:Nat}:i ∈ ios as ↔ ∃ j:Nat,as[j]? = some (Ar.io i):=by
 induction as with
 | nil=>simp [ios]
 | cons a r ih =>
  cases a with
  | d d =>
   rw [show ios (.d d :: r) = ios r from rfl,ih]
   constructor
   ·rintro ⟨j,h⟩
    exact ⟨j + 1,h⟩
   ·rintro ⟨j,h⟩
    cases j with
    | zero=>cases h
    | succ j=>exact ⟨j,h⟩
  | io k =>
   rw [show ios (.io k :: r) = k :: ios r from rfl,Qg,ih]
   constructor
   ·rintro (rfl | ⟨j,h⟩)
    ·exact ⟨0,rfl⟩
    ·exact ⟨j + 1,h⟩
   ·rintro ⟨j,h⟩
    cases j with
    | zero=>cases h; exact .inl rfl
    | succ j=>exact .inr ⟨j,h⟩
theorem Qdo {as:List Ar} (h:(ios as).Nodup):∀ {j k i:Nat},as[j]? = some (.io i) → as[k]? = some (.io i) → j = k:=by
 induction as with
 | nil=>intro j k i e; simp at e
 | cons a r ih =>
  intro j k i e1 e2
  cases a with
  | d d =>
   cases j with
   | zero=>cases e1
   | succ j =>
    cases k with
    | zero=>cases e2
    | succ k=>rw [ih h e1 e2]
  | io m =>
   rw [show ios (.io m :: r) = m :: ios r from rfl,X8] at h
   cases j with
   | zero =>
    cases e1
    cases k with
    | zero=>rfl
    | succ k=>exact absurd (Kh.mpr ⟨k,e2⟩) h.1
   | succ j =>
    cases k with
    | zero =>
     cases e2
     exact absurd (Kh.mpr ⟨j,e1⟩) h.1
    | succ k=>rw [ih h.2 e1 e2]
theorem ArR.get:∀ {vs:List V} {as:List Ar} {j:Nat} {a:Ar},ArR K F H A R σ vs as → as[j]? = some a → ∃ v,vs[j]? = some v ∧ (match a with | .d d=>Vw K F H A R v d | .io i=>σ[i]? = some (some v))
 | [],[],_,_,_,e=>by simp at e
 | v :: vs,.d d :: r,0,_,⟨h,t⟩,e=>by cases e; exact ⟨v,rfl,h⟩
 | v :: vs,.io i :: r,0,_,⟨h,t⟩,e=>by cases e; exact ⟨v,rfl,h⟩
 | v :: vs,.d d :: r,j + 1,a,⟨h,t⟩,e=>ArR.get (j:=j) t e
 | v :: vs,.io i :: r,j + 1,a,⟨h,t⟩,e=>ArR.get (j:=j) t e
 | [],_ :: _,_,_,h,_=>h.elim
 | _ :: _,[],_,_,h,_=>h.elim
theorem ArR.length:∀ {vs:List V} {as:List Ar},ArR K F H A R σ vs as → vs.length = as.length
 | [],[],_=>rfl
 | v :: vs,.d d :: r,⟨h,t⟩=>congrArg (· + 1) t.length
 | v :: vs,.io i :: r,⟨h,t⟩=>congrArg (· + 1) t.length
 | [],_ :: _,h=>h.elim
 | _ :: _,[],h=>h.elim
theorem Q3h {as:List Ar} (h:Q4q R δ as = true) {i:Nat} (hi:i ∈ ios as):∃ s,δ[i]? = some s ∧ Q0V s = true ∧ i ∉ R ∧ (R = [] ∨ Qeb s = true):=by
 unfold Q4q at h
 rw [Q5] at h
 have:=Qe.mp h.2 i hi
 simp only [Q5,Jg,Ji,List.isEmpty_iff] at this
 obtain ⟨⟨h1,h2⟩,h3⟩:=this
 unfold Q7q at h1
 cases e:δ[i]? with
 | none=>rw [e] at h1; cases h1
 | some s =>
  rw [e] at h1 h3
  exact ⟨s,rfl,h1,by simpa using h2,h3⟩
theorem Qbn {as:List Ar} (h:Q4q R δ as = true):(ios as).Nodup:=by
 unfold Q4q at h
 rw [Q5] at h
 exact of_decide_eq_true h.1
theorem SR.args {vs:List V} {as:List Ar} (S:SR K Y F H δ σ A) (ok:Q4q R δ as = true) (r:ArR K F H A R σ vs as):SR K Fx.any (ex R A F H) H (as.map (Q9h δ)) (vs.map some) (Q0X A as):=by
 have nd:=Qbn ok
 have mem:∀ j a,a ∈ Q0X A as j → ∃ i,as[j]? = some (.io i) ∧ a ∈ A i:=fun j a h=>by
  unfold Q0X at h
  split at h
  ·rename_i i e
   exact ⟨i,e,h⟩
  ·simp at h
 refine ⟨by rw [Q4,Q4,r.length],fun j s e=>?_,fun j e=>?_,fun j k a h1 h2=>?_,fun j a h=>?_,fun _ _ _ _=>rfl,Q2S S,fun i hi=>?_,fun i hi=>?_,fun _ _ e=>?_,fun _ _ _=>rfl,fun _ _ e=>?_,fun _ h=>(by rcases h with h | h <;> cases h),fun j c fs e=>?_,fun _ h=>by cases h⟩
 ·rw [Qp] at e
  cases e1:as[j]? with
  | none=>rw [e1] at e; cases e
  | some a =>
   rw [e1] at e
   cases e
   obtain ⟨v,v1,v2⟩:=r.get e1
   have jv:jn (vs.map some)[j]? = some v:=by
    rw [Qp,v1]
    rfl
   rw [jv]
   cases a with
   | d d =>
    have:Q0X A as j = []:=by unfold Q0X; rw [e1]
    rw [this]
    exact ⟨rfl,v,rfl,v2.ex S⟩
   | io i =>
    have:Q0X A as j = A i:=by unfold Q0X; rw [e1]
    rw [this]
    obtain ⟨s,h1,h2,_⟩:=Q3h ok (Kh.mpr ⟨j,e1⟩)
    show Q0Z K _ H (δ[i]?.getD .no) (some v) (A i)
    rw [h1]
    have q:=S.slot i s h1
    rw [v2] at q
    exact q.mono (Q5Y S) fun _ _=>rfl
 ·rw [Qp] at e
  cases e1:as[j]? with
  | none=>unfold Q0X; rw [e1]
  | some a=>rw [e1] at e; cases e
 ·obtain ⟨i,e1,m1⟩:=mem j a h1
  obtain ⟨i',e2,m2⟩:=mem k a h2
  have:=S.dis i i' a m1 m2
  subst this
  exact Qdo nd e1 e2
 ·obtain ⟨i,e1,m1⟩:=mem j a h
  obtain ⟨s,h1,h2,h3,_⟩:=Q3h ok (Kh.mpr ⟨j,e1⟩)
  unfold ex
  rw [if_neg]
  ·exact S.hid i a m1
  ·rintro ⟨i',hi',m2⟩
   have:=S.dis i i' a m1 m2
   subst this
   exact h3 hi'
 ·cases hi
 ·cases hi
 ·cases e
 ·cases e
 ·rw [Qp] at e
  cases e1:as[j]? with
  | none=>rw [e1] at e; cases e
  | some a =>
   rw [e1] at e
   cases a with
   | d d=>cases e
   | io i =>
    obtain ⟨s,h1,h2,_⟩:=Q3h ok (Kh.mpr ⟨j,e1⟩)
    have e:some (δ[i]?.getD .no) = some (Sl.ob c fs):=e
    rw [h1] at e
    cases e
    cases h2
def Q4b (R:List Nat) (A:Nat → List Addr) (F:Hp):Hp:=fun a=>if ∃ i ∈ R,a ∈ A i then none else F a
theorem Q3f {F:Hp}:Q4b [] A F = F:=by
 funext a
 unfold Q4b
 rw [if_neg]
 simp
theorem Q13:∀ {as:List Ar} {s δ:List Sl},(Kw as s δ).length = δ.length
 | [],_,_=>by simp [Kw]
 | .d _ :: r,[],_=>by simp [Kw]
 | .io _ :: r,[],_=>by simp [Kw]
 | .d _ :: r,b :: s,δ=>Q13 (as:=r) (s:=s) (δ:=δ)
 | .io i :: r,b :: s,δ=>by rw [show Kw (.io i :: r) (b :: s) δ = Kw r s (δ.set i b) from rfl,Q13,Qv]
theorem Q1o:∀ {as:List Ar} {s δ:List Sl} {i:Nat},i ∉ ios as → (Kw as s δ)[i]? = δ[i]?
 | [],_,_,_,_=>by simp [Kw]
 | .d _ :: r,[],_,_,_=>by simp [Kw]
 | .io _ :: r,[],_,_,_=>by simp [Kw]
 | .d _ :: r,b :: s,δ,i,h=>by
  show (Kw r s δ)[i]? = δ[i]?
  exact Q1o (as:=r) h
 | .io k :: r,b :: s,δ,i,h=>by
  rw [show ios (.io k :: r) = k :: ios r from rfl,Qg,not_or] at h
  rw [show Kw (.io k :: r) (b :: s) δ = Kw r s (δ.set k b) from rfl,Q1o h.2,Qk (Ne.symm h.1)]
theorem Q4Z:∀ {as:List Ar} {s δ:List Sl} {i j:Nat} {b:Sl},(ios as).Nodup → as[j]? = some (.io i) → s[j]? = some b → i < δ.length → (Kw as s δ)[i]? = some b
 | [],_,_,_,_,_,_,e,_,_=>by simp at e
 | .d _ :: r,[],_,_,_,_,_,_,e,_=>by simp at e
 | .io _ :: r,[],_,_,_,_,_,_,e,_=>by simp at e
 | .d _ :: r,c :: s,δ,i,j,b,nd,e,e2,hi=>by
  cases j with
  | zero=>cases e
  | succ j=>exact Q4Z (as:=r) (s:=s) (j:=j) nd e e2 hi
 | .io k :: r,c :: s,δ,i,j,b,nd,e,e2,hi=>by
  rw [show ios (.io k :: r) = k :: ios r from rfl,X8] at nd
  rw [show Kw (.io k :: r) (c :: s) δ = Kw r s (δ.set k c) from rfl]
  cases j with
  | zero =>
   cases e
   cases e2
   rw [Q1o nd.1,Qo hi]
  | succ j=>exact Q4Z (as:=r) (s:=s) (j:=j) nd.2 e e2 (by rw [Qv]; exact hi)
theorem Q3R:∀ {as:List Ar} {s:List Sl} {i j:Nat} {b:Sl},Q0D R as s = true → as[j]? = some (.io i) → s[j]? = some b → Q0V b = true ∧ (R = [] ∨ Qeb b = true)
 | [],_,_,_,_,_,e,_=>by simp at e
 | .d _ :: r,[],_,_,_,h,_,_=>by cases h
 | .io _ :: r,[],_,_,_,h,_,_=>by cases h
 | .d _ :: r,c :: s,i,j,b,h,e,e2=>by
  cases j with
  | zero=>cases e
  | succ j=>exact Q3R (as:=r) (s:=s) (j:=j) h e e2
 | .io k :: r,c :: s,i,j,b,h,e,e2=>by
  rw [show Q0D R (.io k :: r) (c :: s) = (Q0V c && (R.isEmpty || Qeb c) && Q0D R r s) from rfl] at h
  simp only [Q5,Jg,List.isEmpty_iff] at h
  cases j with
  | zero =>
   cases e2
   exact h.1
  | succ j=>exact Q3R (as:=r) (s:=s) (j:=j) h.2 e e2
theorem Q2K:∀ {as:List Ar} {s:List Sl},Q0D R as s = true → s.length = as.length
 | [],[],_=>rfl
 | [],_ :: _,h=>by cases h
 | .d _ :: r,[],h=>by cases h
 | .io _ :: r,[],h=>by cases h
 | .d _ :: r,c :: s,h=>congrArg (· + 1) (Q2K (as:=r) (s:=s) h)
 | .io k :: r,c :: s,h=>by
  rw [show Q0D R (.io k :: r) (c :: s) = (Q0V c && (R.isEmpty || Qeb c) && Q0D R r s) from rfl] at h
  simp only [Q5] at h
  exact congrArg (· + 1) (Q2K (as:=r) (s:=s) h.2)
theorem SR.behind {vs:List V} {as:List Ar} {F2 H2:Hp} {outs:List Sl} (S:SR K Y F H δ σ A) (ok:Q4q R δ as = true) (r:ArR K F H A R σ vs as) (st:Stp (Q0X A as) (Jj as.length) (ex R A F H) H F2 H2)
  (S2:SR K Fx.any F2 H2 outs (vs.map some) (Q0X A as)) (oo:Q0D R as outs = true):Stp A (ios as) F H (Q4b R A F2) H2 ∧ SR K Y (Q4b R A F2) H2 (Kw as outs δ) σ A ∧ Same (Q4b R A F2) F2:=by
 have nd:=Qbn ok
 have nR:∀ a,F a ≠ none → ¬ ∃ i ∈ R,a ∈ A i:=fun a h=>by
  rintro ⟨i,_,m⟩
  exact h (S.hid i a m)
 have notarg:∀ i a,a ∈ A i → i ∉ ios as → ∀ j ∈ Jj as.length,a ∉ Q0X A as j:=fun i a m hi j _ h=>by
  unfold Q0X at h
  split at h
  ·rename_i i' e
   have:=S.dis i i' a m h
   subst this
   exact hi (Kh.mpr ⟨j,e⟩)
  ·simp at h
 have keep:∀ a o,H a = some o → (∀ i ∈ ios as,a ∉ A i) → H2 a = some o:=fun a o e n=>st.kp a o e fun j _ h=>by
  unfold Q0X at h
  split at h
  ·rename_i i' e'
   exact n i' (Kh.mpr ⟨j,e'⟩) h
  ·simp at h
 have sU:Same (Q4b R A F2) F2:=fun a o e=>by
  unfold Q4b at e
  split at e
  ·cases e
  ·exact e
 have sF:Same F (Q4b R A F2):=fun a o e=>by
  have c:=nR a (by rw [e]; simp)
  have q:ex R A F H a = some o:=(if_neg c:ex R A F H a = F a).trans e
  show Q4b R A F2 a = some o
  unfold Q4b
  rw [if_neg c]
  exact st.f a o q
 have newH:∀ a,F a = none → Q4b R A F2 a ≠ none → H a = none:=fun a e n=>by
  unfold Q4b at n
  split at n
  ·exact absurd rfl n
  ·rename_i c
   have q:ex R A F H a = none:=(if_neg c:ex R A F H a = F a).trans e
   exact st.nw a q n
 have hidU:∀ i a,a ∈ A i → Q4b R A F2 a = none:=fun i a m=>by
  cases q:Q4b R A F2 a with
  | none=>rfl
  | some o =>
   have:=newH a (S.hid i a m) (by rw [q]; simp)
   exact absurd this (S.isSome m)
 have back_at:∀ {i},i ∈ ios as → ∃ b,(Kw as outs δ)[i]? = some b ∧ Q0V b = true:=fun {i} c=>by
  obtain ⟨j,ej⟩:=Kh.mp c
  obtain ⟨s0,h1,h2,h3,h4⟩:=Q3h ok c
  have hj:j < as.length:=(Q8.mp ej).1
  have lo:=Q2K oo
  obtain ⟨b,eb⟩:∃ b,outs[j]? = some b:=⟨_,Qa (by omega)⟩
  exact ⟨b,Q4Z (δ:=δ) nd ej eb (Q8.mp h1).1,(Q3R oo ej eb).1⟩
 refine ⟨⟨sF,newH,keep⟩,⟨by rw [Q13]; exact S.len,fun i s e=>?_,fun i e=>?_,S.dis,hidU,S.new,sU.trans S2.sub,S.fix,S.ioA,fun a o e n=>?_,fun a e n=>?_,S.f0.trans sF,S.lio,fun i c0 fs e=>?_,fun i hi e=>?_⟩,sU⟩
 ·by_cases c:i ∈ ios as
  ·obtain ⟨j,ej⟩:=Kh.mp c
   obtain ⟨s0,h1,h2,h3,h4⟩:=Q3h ok c
   have hj:j < as.length:=(Q8.mp ej).1
   have lo:=Q2K oo
   obtain ⟨b,eb⟩:∃ b,outs[j]? = some b:=⟨_,Qa (by omega)⟩
   have:=Q4Z (δ:=δ) nd ej eb (Q8.mp h1).1
   have e:s = b:=Ja.inj (e.symm.trans this)
   subst e
   obtain ⟨o1,o2⟩:=Q3R oo ej eb
   have q:=S2.slot j s eb
   obtain ⟨v,v1,v2⟩:=r.get ej
   have jv:jn (vs.map some)[j]? = some v:=by
    rw [Qp,v1]
    rfl
   have eA:Q0X A as j = A i:=by unfold Q0X; rw [ej]
   rw [jv,eA] at q
   rw [v2]
   rcases o2 with o2 | o2
   ·subst o2
    rw [Q3f]
    exact q
   ·cases s with
    | dk cs m n=>exact q
    | _=>cases o2
  ·rw [Q1o c] at e
   refine (S.slot i s e).mono sF fun a ha=>?_
   obtain ⟨xs,q⟩:=(S.there ha).some
   rw [q,keep a _ q fun j hj z=>c (by rw [S.dis i j a ha z]; exact hj)]
 ·have:δ[i]? = none:=by
   have:=Jd.mp e
   rw [Q13] at this
   exact Qz this
  exact S.out i this
 ·refine keep a o (S.kp a o e n) fun i hi m=>?_
  cases c:Y.lt i with
  | true =>
   have:=(S.fix i c).2
   rw [this] at m
   exact n i c m
  | false =>
   rw [S.new i a m c] at e
   cases e
 ·cases q:F a with
  | some o=>exact S.nw a e (by rw [q]; simp)
  | none=>exact S.fresh0 (newH a q n)
 ·have c:i ∉ ios as:=fun c=>by
   obtain ⟨b,h1,h2⟩:=back_at c
   rw [e] at h1
   cases h1
   cases h2
  rw [Q1o c] at e
  obtain ⟨h1,h2⟩:=S.ob i c0 fs e
  refine ⟨h1,fun p C dx fvs e1 e2=>h2 p C dx fvs e1 ?_⟩
  have hp:=S.obp e e1
  obtain ⟨xs,q⟩:=(S.there hp).some
  rw [q,← e2,keep p _ q fun j hj z=>c (by rw [S.dis i j p hp z]; exact hj)]
 ·by_cases c:i ∈ ios as
  ·obtain ⟨b,h1,h2⟩:=back_at c
   rw [e] at h1
   cases h1
   cases h2
  ·rw [Q1o c] at e
   exact S.vno i hi e
end
section
variable {X:Cx} {x:Str} {p pos:Pos} {e:Expr} {es:List Expr} {R M:List Nat} {f:List Sl → Option (List Ar × List Sl)} {φ:List Sl → Option (D × List Sl)}
structure Kn (X:Cx) (x:Str) (n:Nat) (fr:Fr) (φ:List Sl → Option (D × List Sl)):Prop where
 ex:∃ (CX:CXT) (k:Nat) (a:Addr) (fd:FuncData) (ps:List Str),FnG X.prog X.w X.K X.mg X.base CX k a fd ps (spF X.K ps.length fr φ) ∧ ps.length = n ∧ Room k X.A ∧ X.mg x = some (.ref a) ∧ PySem.W.keepIn X.K (.ref a) = true ∧ Binds X.K fd ps [] ∧ Passes CX X E0
 gd:X.A.guards = some []
 gl:Gl X x
 db:(x == ("__debug__":Str)) = false
theorem Q4v {flat:Bool} {δ δ':List Sl} {z:D} (h:Yh R flat φ f δ = some (z,δ')):∃ as δ1 outs,f δ = some (as,δ1) ∧ Q4q R δ1 as = true ∧ φ (as.map (Q9h δ1)) = some (z,outs) ∧ Q0D R as outs = true ∧ (R = [] ∨ noL z = true) ∧ δ' = Kw as outs δ1:=by
 unfold Yh at h
 cases e1:f δ with
 | none=>rw [e1] at h; cases h
 | some w =>
  obtain ⟨as,δ1⟩:=w
  rw [e1] at h
  simp only [Q1] at h
  split at h
  ·rename_i ok
   cases e2:φ (as.map (Q9h δ1)) with
   | none=>rw [e2] at h; cases h
   | some w =>
    obtain ⟨d,outs⟩:=w
    rw [e2] at h
    simp only [Q1] at h
    split at h
    ·rename_i oo
     cases h
     simp only [Q5,Jg,List.isEmpty_iff] at oo
     exact ⟨as,δ1,outs,rfl,ok,e2,oo.1,oo.2.imp id (·.2),rfl⟩
    ·cases h
  ·cases h
theorem QhF {n:Nat} {flat:Bool} {B:List Nat} (kn:Kn X x n .n φ) (hf:∀ δ as δ',f δ = some (as,δ') → as.length = n ∧ ∀ i ∈ ios as,i ∈ B) (ha:CV X (e :: es) f R M) (h1:starEach (e :: es) X.env = (false,eval e X.env) :: starEach es X.env:=by rfl) (h2:(backTo pos (starEach es X.env)).any (·.1) = false:=by rfl) :
  EV X (.Call (.Name x p) (e :: es) [] pos) (Yh R flat φ f) [] (M ++ B):=by
 obtain ⟨CX,k,a,fd,ps,Fn,hn,hR,hm,hk,hb,hx⟩:=kn.ex
 obtain ⟨t,pa,q⟩:=ha
 refine ⟨_,Fn.pe kn.gd hR kn.gl hm hk hb hx pa kn.db h1 h2,fun Y F H δ σ A S z δ' e Q kk=>?_⟩
 obtain ⟨as,δ1,outs,e1,ok,e2,oo,ef,rfl⟩:=Q4v e
 obtain ⟨hl,hB⟩:=hf _ _ _ e1
 refine q Y F H δ σ A S as δ1 e1 _ fun vs F1 H1 st S1 r=>?_
 show spF X.K ps.length .n φ (vs ++ []) H1 Q E0
 rw [J4]
 refine ⟨ex R A F1 H1,as.map (Q9h δ1),Q0X A as,by rw [Q4,hl,hn],S1.args ok r,z,outs,e2,fun v F2 H2 st2 S2 rv=>?_⟩
 rw [hn,← hl] at st2
 obtain ⟨st3,S3,sU⟩:=S1.behind ok r st2 S2 oo
 refine kk v _ H2 ((st.trans S1 st3).mono fun i hi=>?_) S3 (.inl ?_)
 ·rcases Qc.mp hi with z | z
  ·exact Q9 _ z
  ·exact Qd _ (hB i z)
 ·have rv:Rp X.K F2 v z:=rv
  rcases ef with ef | ef
  ·subst ef
   rw [Q3f]
   exact rv
  ·refine rv.flat (fun b xs h=>?_) ef
   rcases h with h | h
   ·refine .inl ?_
    have nb:¬ ∃ i ∈ R,b ∈ A i:=by
     rintro ⟨i,hi,m⟩
     have hb:∀ o,H1 b = some o → F2 b = some o:=fun o eo=>st2.f b o ((if_pos ⟨i,hi,m⟩:ex R A F1 H1 b = H1 b).trans eo)
     rcases S1.there m with ⟨ys,q⟩ | ⟨ys,q⟩ | ⟨_,ys,q⟩ | ⟨_,_,ys,q⟩ | ⟨ys,q⟩
     ·have:=hb _ q
      rcases h with h | ⟨o,h⟩ <;> rw [this] at h <;> cases h
     ·have:=hb _ q
      rcases h with h | ⟨o,h⟩ <;> rw [this] at h <;> cases h
     ·have:=hb _ q
      rcases h with h | ⟨o,h⟩ <;> rw [this] at h <;> cases h
     ·have:=hb _ q
      rcases h with h | ⟨o,h⟩ <;> rw [this] at h <;> cases h
     ·have:=hb _ q
      rcases h with h | ⟨o,h⟩ <;> rw [this] at h <;> cases h
    have q:Q4b R A F2 b = F2 b:=if_neg nb
    unfold Rd at h ⊢
    rw [q]
    exact h
   ·exact .inr h
theorem Qh7 {n:Nat} {flat:Bool} {B:List Nat} (kn:Kn X x n .l φ) (hf:∀ δ as δ',f δ = some (as,δ') → as.length = n ∧ ∀ i ∈ ios as,i ∈ B) (ha:CV X (e :: es) f [] M) (h1:starEach (e :: es) X.env = (false,eval e X.env) :: starEach es X.env:=by rfl) (h2:(backTo pos (starEach es X.env)).any (·.1) = false:=by rfl) :
  NV X (.Call (.Name x p) (e :: es) [] pos) (Yh [] flat φ f) (M ++ B):=by
 obtain ⟨CX,k,a,fd,ps,Fn,hn,hR,hm,hk,hb,hx⟩:=kn.ex
 obtain ⟨t,pa,q⟩:=ha
 refine ⟨_,Fn.pe kn.gd hR kn.gl hm hk hb hx pa kn.db h1 h2,fun Y F H δ σ A S z δ' e Q kk=>?_⟩
 obtain ⟨as,δ1,outs,e1,ok,e2,oo,ef,rfl⟩:=Q4v e
 obtain ⟨hl,hB⟩:=hf _ _ _ e1
 refine q Y F H δ σ A S as δ1 e1 _ fun vs F1 H1 st S1 r=>?_
 show spF X.K ps.length .l φ (vs ++ []) H1 Q E0
 rw [J4]
 refine ⟨ex [] A F1 H1,as.map (Q9h δ1),Q0X A as,by rw [Q4,hl,hn],S1.args ok r,z,outs,e2,fun v F2 H2 st2 S2 rv=>?_⟩
 rw [hn,← hl] at st2
 obtain ⟨st3,S3,sU⟩:=S1.behind ok r st2 S2 oo
 rw [Q3f] at st3 S3
 obtain ⟨b,rfl,nb,fb,ob⟩:=rv
 refine kk b _ H2 ((st.trans S1 st3).mono fun i hi=>?_) S3 (Q6F st S1 nb) fb ob
 rcases Qc.mp hi with z | z
 ·exact Q9 _ z
 ·exact Qd _ (hB i z)
end
end Z
namespace Z
open PySem PySem.Spec PyProof.Rows L2
section
variable {X:Cx} {pos:Pos}
def tyD:D → String
 | .none => "NoneType"
 | .bool _ => "bool"
 | .int _ => "int"
 | .str _ => "str"
 | .list _ => "list"
 | .tuple _ => "tuple"
 | .dict _ => "dict"
theorem Rp.tyx {K:PySem.W.Frag} {G H:Hp} {v:V} {d:D} (sG:Same G H) (h:Rp K G v d):TyX K H v (.type (tyD d)):=by
 cases h with
 | non=>exact .base .non
 | bl b=>exact .base (.bl b)
 | int i=>exact .base (.int i)
 | str x=>exact .base (.str x)
 | lst e _=>exact .base (.lst (sG _ _ e))
 | dic e _=>exact .fDict (sG _ _ e)
 | tup e _ =>
  rcases e with (e | ⟨o,e⟩) | ⟨o,its,n,e1,e2,_⟩
  ·exact .base (.tup (sG _ _ e))
  ·exact .fTuple (sG _ _ e)
  ·exact .kTuple e1 e2
def Q7A (T:String) (d:D):Bool:=match d with
 | .none=>T == "NoneType"
 | .bool _=>T == "bool" || T == "int"
 | .int _=>T == "int"
 | .str _=>T == "str"
 | .list _=>T == "list"
 | .tuple _=>T == "tuple"
 | .dict _=>T == "dict"
def Qjp (T:String):Bool:=["int", "bool", "str", "list", "tuple", "dict"].contains T
theorem Qha {T:String} (hT:Qjp T = true:=by rfl) (d:D):kitB (tyD d) T = some (Q7A T d):=by
 have:T ∈ ["int", "bool", "str", "list", "tuple", "dict"]:=by simpa [Qjp] using hT
 simp only [Qg,Qu,or_false] at this
 rcases this with rfl | rfl | rfl | rfl | rfl | rfl <;> cases d <;> dsimp only [tyD,Q7A] <;> decide +kernel
def Qbs (T:String) (d:D):Option D:=some (.bool (Q7A T d))
theorem Q4X {T:String} {x T':Str} {a:Expr} {fa} {R M:List Nat} {p p2:Pos} (hT:Qjp T = true:=by rfl) (b:Bn X x (.builtin "isinstance")) (c:Bn X T' (.type T)) (ha:EV X a fa R M)
  (h1:starEach [a,.Name T' p2] X.env = (false,eval a X.env) :: starEach [.Name T' p2] X.env:=by rfl) (h2:(backTo pos (starEach [.Name T' p2] X.env)).any (·.1) = false:=by rfl) (h3:starEach [.Name T' p2] X.env = [(false,eval (.Name T' p2) X.env)]:=by rfl) :
  EV X (.Call (.Name x p) [a,.Name T' p2] [] pos) (f1 (Qbs T) fa) [] M:=by
 obtain ⟨t,pa,q⟩:=ha
 have pT:PE X (.Name T' p2) (tC (.ty T)):=pe_bltn c.gl c.mg c.bt rfl c.nn c.db
 refine ⟨_,pe_callB call_isi b.gl b.mg b.bt (pa_cons pa (pa_cons pT pa_nil h3) h1) b.nn b.db h1 h2,fun Y F H δ σ A S z δ' e Q k=>?_⟩
 obtain ⟨d,e1,e2⟩:=Q5B e
 refine q Y F H δ σ A S d δ' e1 _ fun v F1 H1 st S1 r1=>?_
 refine ⟨v,.ty T,.type (tyD d),.type T,Q7A T d,rfl,.ty T,(r1.ex S1).tyx (Q2S S1),kit_ty (Qha hT d),?_⟩
 cases e2
 exact k _ F1 H1 st S1 (.inl (.bl _))
def Q1d:List D → Option (List Bool)
 | []=>some []
 | .bool b :: r=>(Q1d r).map (b :: ·)
 | _=>none
theorem Q4Y:∀ {ds:List D} {bs:List Bool},Q1d ds = some bs → ds = bs.map Qj
 | [],bs,h=>by cases h; rfl
 | d :: r,bs,h=>by
  cases d <;> simp only [Q1d] at h <;> try (cases h; done)
  cases e:Q1d r with
  | none=>rw [e] at h; cases h
  | some cs =>
   rw [e] at h
   cases h
   rw [Q4Y e]
   rfl
theorem Rps.bools {K:PySem.W.Frag} {G:Hp}:∀ {vs:List V} {ns:List Bool},Rps K G vs (ns.map Qj) → vs = ns.map V.bl
 | _,[],.nil=>rfl
 | _,n :: ns,.cons h r=>by
  cases h
  rw [r.bools]
  rfl
def Qfe:D → Option D
 | .list ds=>(Q1d ds).map fun bs=>.bool (bs.all id)
 | _=>none
theorem QeK:Q4i X (rAll X.K) (g1 Qfe):=by
 intro Y F H δ σ A R xs ds z S r hg Q k
 obtain ⟨d,rfl,hg'⟩:=Q0g hg
 clear hg
 have hg:=hg'
 obtain ⟨v,rfl,rv⟩:=r.one
 unfold Qfe at hg
 split at hg
 ·rename_i ds'
  cases e:Q1d ds' with
  | none=>rw [e] at hg; cases hg
  | some ns =>
   rw [e] at hg
   cases hg
   have e2:=Q4Y e
   subst e2
   obtain ⟨a,ys,rfl,h1,r1⟩:=rv.list S
   have e3:=r1.bools
   subst e3
   exact ⟨a,ns,rfl,SqL.of h1,k _ F H Stp.refl S (.bl _)⟩
 ·cases hg
def Q7x (i j:Nat) (f:List Sl → Option (List D × List Sl)):List Sl → Option Out:=fun δ=>(f δ).bind fun p=>match p.1 with
 | [a,b]=>if i < p.2.length ∧ j < p.2.length then some (.nx ((p.2.set i (.fz a)).set j (.fz b))) else none
 | _=>none
theorem Q9u {io:Iom} {fr:Fr} {i j:Nat} {x y:Str} {a b:Expr} {f} {M:List Nat} {px py pt pt2:Pos} {kt k2} (hi:io i = false) (hj:io j = false) (hc:X.calm = true) (T:Tg X i x) (U:Tg X j y) (hij:i ≠ j)
  (hx:X.env.scope.names.lookup x = some .local) (hy:X.env.scope.names.lookup y = some .local) (ha:AV X [a,b] f [] M)
  (hw:swappedStores [.Tuple [.Name x px,.Name y py] kt pt] (.Tuple [a,b] k2 pt2) X.env = pure (some [x,y]):=by rfl)
  (hs:swapsWithSole [.Tuple [.Name x px,.Name y py] kt pt] (.Tuple [a,b] k2 pt2) pos.line X.env = pure false:=by rfl) :
  SV X io fr (.Assign [.Tuple [.Name x px,.Name y py] kt pt] (.Tuple [a,b] k2 pt2) pos) (Q7x i j f):=by
 obtain ⟨t,p,q⟩:=ha
 refine ⟨_,ps_par hc T.nd T.at_ U.at_ hij hx hy p hw hs,fun Y F H δ σ A hY S o e D k=>?_⟩
 unfold Q7x at e
 cases e1:f δ with
 | none=>rw [e1] at e; cases e
 | some w =>
  obtain ⟨ds,δ1⟩:=w
  rw [e1] at e
  simp only [Q1] at e
  split at e
  ·rename_i d1 d2
   split at e
   ·rename_i hl
    cases e
    refine q Y F H δ σ A S _ δ1 e1 _ fun vs F1 H1 st S1 r=>?_
    obtain ⟨v,u,rfl,rv,ru⟩:=r.two
    refine ⟨v,u,rfl,?_⟩
    have S2:=S1.putFz hl.1 (by rw [hY]; exact hi) rv.nil
    have S3:=S2.putFz (i:=j) (by simpa using hl.2) (by rw [hY]; exact hj) ru.nil
    exact k _ F1 H1 _ st.f S3
   ·cases e
  ·cases e
def Q7E (T:Tt) (f:List Sl → Option (D × List Sl)):List Sl → Option Out:=fun δ=>(f δ).bind fun p=>(Vu T p.1 p.2).map .nx
theorem Q7Q {io:Iom} {fr:Fr} {tg e:Expr} {T:Tt} {f} {M:List Nat} (hT:∀ j ∈ tS T,io j = false) (h:EV X e f [] M) (hg:GV X tg T) (hs:swapsWithSole [tg] e pos.line X.env = pure false:=by rfl) (hw:swappedStores [tg] e X.env = pure none:=by rfl)
  (h1:(assignEach [tg] X.env).map (·.2) = [assign tg X.env]:=by rfl):SV X io fr (.Assign [tg] e pos) (Q7E T f):=by
 obtain ⟨t,p,q⟩:=h
 obtain ⟨g,pg,qg⟩:=hg
 refine ⟨_,ps_asg p pg hs hw h1,fun Y F H δ σ A hY S o e D k=>?_⟩
 unfold Q7E at e
 cases e1:f δ with
 | none=>rw [e1] at e; cases e
 | some w =>
  obtain ⟨d,δ1⟩:=w
  rw [e1] at e
  simp only [Q1] at e
  cases e2:Vu T d δ1 with
  | none=>rw [e2] at e; cases e
  | some δ2 =>
   rw [e2] at e
   cases e
   refine q Y F H δ σ A S d δ1 e1 _ fun v F1 H1 st S1 r=>?_
   exact qg Y F1 H1 δ1 σ A (fun j hj=>by rw [hY]; exact hT j hj) S1 v d δ2 r.nil e2 _ fun σ' A' _ S2=>k _ F1 H1 A' st.f S2
mutual
theorem Qci {K:PySem.W.Frag} {G:Hp}:∀ {n:Nat} {u:Value} {v:V} {d:D},kRp K n u = some (v,d) → RelV v u ∧ Rp K G v d
 | 0,_,_,_,h=>by unfold kRp at h; cases h
 | n + 1,u,v,d,h=>by
  unfold kRp at h
  split at h
  ·cases h; exact ⟨rfl,.non⟩
  ·cases h; exact ⟨rfl,.bl _⟩
  ·cases h; exact ⟨⟨_,rfl⟩,.int _⟩
  ·cases h; exact ⟨⟨_,rfl⟩,.str _⟩
  ·rename_i a
   split at h
   ·rename_i dd its m sl e
    split at h
    ·rename_i hz
     cases e2:QdI K n its.toList with
     | none=>rw [e2] at h; cases h
     | some p =>
      obtain ⟨vs,ds⟩:=p
      rw [e2] at h
      cases h
      obtain ⟨h1,h2⟩:=Qd5 (G:=G) e2
      exact ⟨rfl,.tup (.inr ⟨_,its,m,e,rfl,rfl,hz,h1⟩) h2⟩
    ·cases h
   ·cases h
  ·cases h
theorem Qd5 {K:PySem.W.Frag} {G:Hp}:∀ {n:Nat} {us:List Value} {vs:List V} {ds:List D},QdI K n us = some (vs,ds) → Vals vs us ∧ Rps K G vs ds
 | 0,_,_,_,h=>by unfold QdI at h; cases h
 | n + 1,us,vs,ds,h=>by
  unfold QdI at h
  split at h
  ·cases h; exact ⟨.nil,.nil⟩
  ·rename_i u r
   split at h
   ·rename_i p q e1 e2
    obtain ⟨v1,d1⟩:=p
    obtain ⟨v2,d2⟩:=q
    cases h
    obtain ⟨h1,h2⟩:=Qci (G:=G) e1
    obtain ⟨h3,h4⟩:=Qd5 (G:=G) e2
    exact ⟨.cons h1 h3,.cons h2 h4⟩
   ·cases h
end
structure Gc (X:Cx) (x:Str) (d:D):Prop where
 ex:∃ u v,X.mg x = some u ∧ kRp X.K 40 u = some (v,d)
 db:(x == ("__debug__":Str)) = false
theorem Qk8 {x:Str} {d:D} (hg:Gl X x) (c:Gc X x d):EV X (.Name x pos) (Xp d) [] []:=by
 obtain ⟨u,v,h1,h2⟩:=c.ex
 exact Q3B (pe_glob hg h1 (Qci (G:=fun _=>none) h2).1 c.db) fun G=>(Qci h2).2
end
end Z
namespace Z
open PySem PySem.Spec PyProof.Rows L2 RT
section
variable {prog:Program} {w:World} {A:Around} {E:Value → Shared → Prop} {s:Shared}
theorem Qgb {R:Result → Shared → Prop} {it l S:Addr} {items:Array Value} (hh:A.handled = none) (hit:s.heap.IsRevIter it l ((items.size:Int) - 1)) (hl:s.heap.IsList l items) (hne:l ≠ it) (hn:items.size ≤ sizeLine)
  (hS:s.heap.get? S = some { cls:=.type "list",data:=.seq #[] }) (hSi:S ≠ it) (hSl:S ≠ l)
  (hR:∀ (h':Heap) (tk:Nat) (acc:Array Value) (c:Nat),(∀ b o,b ≠ S → b ≠ it → s.heap.get? b = some o → h'.get? b = some o) → h'.get? S = some { cls:=.type "list",dict:=none,data:=.seq acc c,slots:=#[] } → ItemsOf (fun i v=>items[items.size - 1 - i]? = some v) acc items.size → R (.ok (.ret .none)) { s with heap:=h',toks:=tk }) :
  wpAny (model prog w) A.in1 (Builtin.«list.__init__» ⟨[.ref S,.ref it],[]⟩)
   (fun fin s'=>match fin with | .done f=>R (.ok f) s' | .again c'=>c'.quiet = true ∧ codeAny (model prog w) A c' R s') (fun e s'=>R (.error e) s') s:=by
 have W:=(Walks.listRev (prog:=prog) (w:=w) (A:=A.in1) hh it l hne items).toS
 show wpAny _ A.in1 (do let old ← Builtin.List.listItems (.ref S); Builtin.List.listUpdate (.ref S) (fun _=>#[]); letGo old.toList.reverse; Builtin.List.listExtendWith (.ref S) (.ref it) .none) _ _ s
 refine wpAny_bind ?_
 unfold Builtin.List.listItems
 refine wpAny_bind (wpAny_seqItems hS rfl (wpAny_pure ?_))
 show wpAny _ A.in1 (updateSeq S (fun _=>#[]) >>= fun _=>letGo (#[]:Array Value).toList.reverse >>= fun _=>Builtin.List.listExtendWith (.ref S) (.ref it) .none) _ _ s
 refine wpAny_bind (wpAny_updateSeq hS rfl ?_)
 have hS₂:=Heap.get?_update_self (Obj.mapSeq (fun _=>(#[]:Array Value))) hS rfl
 have oth:∀ b o,b ≠ S → s.heap.get? b = some o → (s.heap.update S (Obj.mapSeq (fun _=>(#[]:Array Value)))).get? b = some o :=
  fun b o hb e=>(Heap.get?_update_other _ _ (Ne.symm hb)).trans e
 refine wpAny_bind (wpAny_letGo ?_)
 generalize hs1:({ s with heap:=s.heap.update S (Obj.mapSeq (fun _=>(#[]:Array Value))) }:Shared) = s1
 have hit1:s1.heap.IsRevIter it l ((items.size:Int) - 1):=by
  subst hs1
  exact hit.at fun o e=>oth it o (Ne.symm hSi) e
 have hl1:s1.heap.IsList l items:=by
  subst hs1
  obtain ⟨o,e,c⟩:=hl
  exact ⟨o,oth l o (Ne.symm hSl) e,c⟩
 have hT:s1.TypeIs (.ref it) "list_reverseiterator":=Heap.IsRevIter.typeIs hit1
 have hS₁:s1.heap.get? S = some { cls:=.type "list",data:=.seq #[] }:=by
  subst hs1
  exact hS₂
 have oth1:∀ b o,b ≠ S → s.heap.get? b = some o → s1.heap.get? b = some o:=by
  subst hs1
  exact oth
 have hSf:S ∉ [it,l]:=by simp only [Qg,Qu,or_false,not_or]; exact ⟨hSi,hSl⟩
 have es:∀ h' tk,({ s with heap:=h',toks:=tk }:Shared) = { s1 with heap:=h',toks:=tk }:=by
  subst hs1
  intro h' tk
  rfl
 have h1:Builtin.List.listSameRef (.ref S) (.ref it) = false:=by simp [Builtin.List.listSameRef,hSi]
 unfold Builtin.List.listExtendWith
 refine wpAny_bind (wpAny_typeOf hT ?_)
 rw [if_neg (by rw [h1]; decide)]
 refine wpAny_bind (wpAny_pyIter_revIter hit1 ?_)
 refine wpAny_bind (wpAny_holding ?_)
 unfold Builtin.List.listLengthHint
 refine wpAny_bind (wpAny_specialOf hT nolen_lri ?_)
 show wpAny _ A.in1 (specialOf (Value.ref it) (Str.ofString "__length_hint__") >>= _) _ _ _
 refine wpAny_bind (wpAny_specialOf hT hint_lri ?_)
 generalize hid:("list_reverseiterator.__length_hint__":String) = id0
 wp_delta
 rw [show splitId id0 = some ("list_reverseiterator", "__length_hint__") from by subst hid; decide +kernel]
 subst hid
 refine wpAny_bind (wpAny_isInstance (b:=true) hT (by rw [isSubtype_type]; kernel_rfl) ?_)
 refine wpAny_pure ?_
 rw [if_neg (by decide)]
 have e0:((items.size:Nat):Int) - 1 - ((0:Nat):Int) = (items.size:Int) - 1:=by omega
 refine wpAny_pure ⟨plainId_quiet F.plain_extend_loop _,codeAny_extend_loopS W hn _ hSf _ items.size 0 _ _ _ rfl (Jo _) ⟨Jo _,by rw [e0]; exact hit1,hl1⟩ hS₁ (ItemsOf.nil _) fun s' acc' c' hm hS' hacc=>?_⟩
 rw [Moved.eq_with hm,← es]
 refine hR s'.heap s'.toks acc' c' (fun b o hb hb2 e=>hm.heap b o (fun hmem=>?_) (oth1 b o hb e)) hS' hacc
 rcases Qg.mp hmem with e' | hmem
 ·exact hb e'
 ·exact hb2 (Qr.mp hmem)
theorem Q8f {it l:Addr} {items:Array Value} {Q:Value → Shared → Prop} (hh:A.handled = none) (hit:s.heap.IsRevIter it l ((items.size:Int) - 1)) (hl:s.heap.IsList l items) (hne:l ≠ it) (hn:items.size ≤ sizeLine)
  (hQ:∀ (h':Heap) (tk:Nat) (acc:Array Value) (c:Nat),(∀ b o,b ≠ it → s.heap.get? b = some o → h'.get? b = some o) → h'.get? s.heap.objs.size = some { cls:=.type "list",dict:=none,data:=.seq acc c,slots:=#[] } → ItemsOf (fun i v=>items[items.size - 1 - i]? = some v) acc items.size →
   Q (.ref s.heap.objs.size) { s with heap:=h',toks:=tk }) :
  wpAny (model prog w) A (call (.type "list") [.ref it]) Q E s:=by
 obtain ⟨oi,hoi,_⟩:=id hit
 obtain ⟨ol,hol,_⟩:=id hl
 refine callType_codes (Q₁:=fun obj s₁=>obj = .ref s.heap.objs.size ∧ s₁ = { s with heap:=s.heap.push { cls:=.type "list",data:=.seq #[] } }) F.called_list (F.typeCall_list_1 _) F.entry_list_init
  (code_list_new _ ⟨rfl,rfl⟩) fun obj s₁ h₁=>?_
 obtain ⟨rfl,rfl⟩:=h₁
 have hS:(s.heap.push { cls:=.type "list",data:=.seq #[] }).get? s.heap.objs.size = some { cls:=.type "list",data:=.seq #[] }:=Heap.get?_push_size _ rfl
 refine ⟨⟨_,hS,rfl⟩,F.args_list_init_2 _ _,Qgb (A:=A.in1) (s:={ s with heap:=s.heap.push { cls:=.type "list",data:=.seq #[] } }) hh (hit.at fun o e=>Heap.get?_push_of_some _ e) (hl.push _) hne hn hS (Je (Heap.lt_size hoi)) (Je (Heap.lt_size hol)) fun h' tk acc c hk hS' hacc=>?_⟩
 exact ⟨rfl,hQ h' tk acc c (fun b o hb e=>hk b o (Jz (Heap.lt_size e)) hb (Heap.get?_push_of_some _ e)) hS' hacc⟩
end
def QgX (K:PySem.W.Frag) (te:TE):TE:=fun σ H Q=>te σ H fun v H1=>∃ (a:Addr) (xs:List V),v = .ref a ∧ SqL K H1 a xs ∧ ∀ q,H1 q = none → Q (.ref q) (upd H1 q (.lst xs.reverse))
section
variable {X:Cx}
theorem QdY {e:Expr} {te:TE} {p p2 pos pos2:Pos} (hc:X.calm = true) (hg:Gl X "list") (hm:X.mg "list" = none) (hg2:Gl X "reversed") (hm2:X.mg "reversed" = none) (he:PE X e te)
  (hs:starEach [e] X.env = (false,eval e X.env) :: starEach [] X.env:=by rfl)
  (hs2:starEach [.Call (.Name "reversed" p2) [e] [] pos2] X.env = (false,eval (.Call (.Name "reversed" p2) [e] [] pos2) X.env) :: starEach [] X.env:=by rfl) :
  PE X (.Call (.Name "list" p) [.Call (.Name "reversed" p2) [e] [] pos2] [] pos) (QgX X.K te):=by
 refine ⟨fun pins s σ H Q I h=>?_⟩
 refine Call_ (ld_blt I hg hm boot_list (PyProof.Rows.callWith_type1 (args_cons (Call_ (ld_blt I hg2 hm2 PyProof.Rows.boot_reversed (PyProof.Rows.callWith_type1 (args_cons (thn (he.run pins s σ H _ I h) fun u s1 ⟨v,H1,I1,r1,q1⟩=>args_nil ?_) hs) hs rfl))) hs2) hs2 rfl))
 obtain ⟨a,xs,ev,hq,q⟩:=q1
 subst ev
 obtain rfl:u = Value.ref a:=r1
 obtain ⟨its,rv,p',hz⟩:=I1.list hq
 refine call_reversed_list p'.isList (args_nil ?_)
 have k0:∀ b o,s1.heap.get? b = some o → (s1.heap.push (revObj a ((its.toArray.size:Int) - 1))).get? b = some o:=fun b o e=>Heap.get?_push_of_some _ e
 have I2:Inv X pins σ H1 { s1 with heap:=s1.heap.push (revObj a ((its.toArray.size:Int) - 1)) }:=I1.kept (t':=s1.toks) k0
 obtain ⟨f0,f1,f2,f3,f4,f5⟩:=I1.fpOk (H':=H1) (b:=s1.heap.objs.size) (Jf _) (I1.hok.fresh (Jf _))
 have hl:=p'.isList
 obtain ⟨ol,hol,_⟩:=id hl
 have hne:a ≠ s1.heap.objs.size:=Jz (Heap.lt_size hol)
 have hn:its.toArray.size ≤ sizeLine:=by rw [List.size_toArray,← rv.length]; exact hz
 refine Q8f (s:={ s1 with heap:=s1.heap.push (revObj a ((its.toArray.size:Int) - 1)) }) (I1.ok.hd hc) ⟨_,Heap.get?_push_size _ rfl,rfl,rfl⟩ (hl.push _) hne hn fun h' tk acc c hk hS hi=>?_
 have hL:Inv X pins σ (upd H1 (s1.heap.push (revObj a ((its.toArray.size:Int) - 1))).objs.size (.lst xs.reverse)) { s1 with heap:=(s1.heap.push (revObj a ((its.toArray.size:Int) - 1))).push { cls:=.type "list",dict:=none,data:=.seq acc c,slots:=#[] } } :=
  I2.laid (t':=s1.toks) (fun b o e=>Heap.get?_push_of_some _ e) (Jf _) (show ObjOk X.prog X.w _ _ _ (.lst xs.reverse) from ⟨by rw [Xc]; exact hz,acc.toList,c,vals_rev rv hi,by rw [Array.toArray_toList]; exact Heap.get?_push_size _ rfl⟩)
 have hf:H1 (s1.heap.push (revObj a ((its.toArray.size:Int) - 1))).objs.size = none:=I2.hok.fresh (Jf _)
 have hne2:s1.heap.objs.size ≠ (s1.heap.push (revObj a ((its.toArray.size:Int) - 1))).objs.size:=Jz (Heap.lt_size (Heap.get?_push_size s1.heap (o:=revObj a ((its.toArray.size:Int) - 1)) rfl))
 have I4:Inv X pins σ (upd H1 (s1.heap.push (revObj a ((its.toArray.size:Int) - 1))).objs.size (.lst xs.reverse)) { s1 with heap:=h',toks:=tk }:=by
  refine Inv.turned (s:={ s1 with heap:=(s1.heap.push (revObj a ((its.toArray.size:Int) - 1))).push { cls:=.type "list",dict:=none,data:=.seq acc c,slots:=#[] } }) (h':=h') (t':=tk) (it:=s1.heap.objs.size) hL (fun b o hb e=>?_) (by rw [upd_ne hne2]; exact f0) f1 f3 f4 f5
  by_cases cq:b = (s1.heap.push (revObj a ((its.toArray.size:Int) - 1))).objs.size
  ·subst cq
   have e:=(Heap.get?_push_size (s1.heap.push (revObj a ((its.toArray.size:Int) - 1))) (o:={ cls:=.type "list",dict:=none,data:=.seq acc c,slots:=#[] }) rfl).symm.trans e
   cases e
   exact hS
  ·have hlt:=Heap.lt_size e
   have e':(s1.heap.push (revObj a ((its.toArray.size:Int) - 1))).get? b = some o:=by
    rcases Heap.get?_push_cases e with z | z
    ·exact absurd z.1 cq
    ·exact z
   exact hk b o hb e'
 exact ⟨.ref _,_,I4,rfl,q _ hf⟩
end
end Z
namespace Z
open PySem PySem.Spec PyProof.Rows L2
section
variable {K:PySem.W.Frag} {Y:Fx} {F F' H H':Hp} {δ:List Sl} {σ:L2.St} {A:Nat → List Addr} {i:Nat}
theorem SR.chgS (S:SR K Y F H δ σ A) (hi:i < δ.length) {s':Sl} (hH:∀ a,a ∉ A i → H' a = H a) (h:Q0Z K F H' s' (jn σ[i]?) (A i)) (hob:∀ c fs,s' ≠ Sl.ob c fs:=by intro _ _; simp) (hno:s' ≠ Sl.no:=by simp):SR K Y F H' (δ.set i s') σ A:=by
 refine ⟨by rw [Qv]; exact S.len,fun j t e=>?_,fun j e=>?_,S.dis,S.hid,S.new,fun b x e=>?_,S.fix,S.ioA,fun a x e n=>?_,S.nw,S.f0,S.lio,S.ob_set hi hob (fun j c a ha=>hH a fun z=>c (S.dis j i a ha z)),S.vno_set hi hno⟩
 ·by_cases c:j = i
  ·subst c
   rw [Qo hi] at e
   cases e
   exact h
  ·rw [Qk (Ne.symm c)] at e
   refine (S.slot j t e).mono (Same.refl _) fun a ha=>hH a fun z=>c (S.dis j i a ha z)
 ·by_cases c:j = i
  ·subst c
   rw [Qo hi] at e
   cases e
  ·rw [Qk (Ne.symm c)] at e
   exact S.out j e
 ·rw [hH]
  ·exact S.sub b x e
  ·intro z
   rw [S.hid i b z] at e
   cases e
 ·rw [hH]
  ·exact S.kp a x e n
  ·intro z
   cases hio:Y.lt i with
   | false =>
    rw [S.new i a z hio] at e
    cases e
   | true =>
    rw [(S.fix i hio).2] at z
    exact n i hio z
theorem Stp.chgS {M:List Nat} (hM:i ∈ M) (hH:∀ a,a ∉ A i → H' a = H a):Stp A M F H F H' :=
 ⟨Same.refl _,fun a e n=>absurd e n,fun a x e n=>by rw [hH a (n i hM)]; exact e⟩
def Q1J (i:Nat) (δ:List Sl):Option (List Int × Int × Int):=match δ[i]? with
 | some (.dk cs m n)=>some (cs,m,n)
 | _=>none
theorem Q8w {w:List Int × Int × Int} (h:Q1J i δ = some w):δ[i]? = some (.dk w.1 w.2.1 w.2.2):=by
 unfold Q1J at h
 split at h
 ·rename_i e; cases h; exact e
 ·cases h
theorem SR.dk (S:SR K Y F H δ σ A) {w:List Int × Int × Int} (h:Q1J i δ = some w):∃ p q,σ[i]? = some (some (.ref p)) ∧ A i = [p,q] ∧ H p = some (.lst [.ref q,.int w.2.1,.int w.2.2]) ∧ H q = some (.lst (w.1.map V.int)):=by
 obtain ⟨p,q,e1,e2,h1,h2⟩:=S.slot i _ (Q8w h)
 exact ⟨p,q,Wh e1,e2,h1,h2⟩
theorem SR.dkI (S:SR K Y F H δ σ A) {w:List Int × Int × Int} (h:Q1J i δ = some w):i < δ.length:=(Q8.mp (Q8w h)).1
theorem QeE {w:List Int} {H:Hp} {p q:Addr} {m n:Int} (h1:H p = some (.lst [.ref q,.int m,.int n])) (h2:H q = some (.lst (w.map V.int))):p ≠ q:=by
 intro e
 subst e
 rw [h1] at h2
 have h3:[V.ref p,V.int m,V.int n] = w.map V.int:=by
  injection h2 with h2
  injection h2
 cases w with
 | nil=>cases h3
 | cons a b =>
  rw [Qq] at h3
  injection h3 with h4
  cases h4
end
section
variable {X:Cx} {x:Str} {i:Nat} {pos p1 p2 apos:Pos}
def Qev (i:Nat):List Sl → Option (D × List Sl):=fun δ=>(Q1J i δ).map fun w=>(.int w.2.1,δ)
def Q7H (i:Nat):List Sl → Option (D × List Sl):=fun δ=>(Q1J i δ).map fun w=>(.int w.2.2,δ)
theorem Qj9 {j} {p3} (hu:X.A.units + 1 < cLine) (n:Nm X i x) (hs:PlainIx (.Constant (.int 1) j p3):=by intro _ _; rfl):EV X (.Subscript (.Name x p1) (.Constant (.int 1) j p3) pos) (Qev i) [] []:=by
 refine ⟨_,pe_ix (QdG hu) n.pe pe_int hs,fun Y F H δ σ A S z δ' e Q k=>?_⟩
 unfold Qev at e
 cases e0:Q1J i δ with
 | none=>rw [e0] at e; cases e
 | some w =>
  rw [e0] at e
  cases e
  obtain ⟨p,q,s1,s2,s3,s4⟩:=S.dk e0
  exact ⟨.ref p,s1,.inl (.inl ⟨p,_,1,.int w.2.1,rfl,rfl,SqL.of s3,rfl,k _ F H Stp.refl S (.inl (.int _))⟩)⟩
theorem QbN {j} {p3} (hu:X.A.units + 1 < cLine) (n:Nm X i x) (hs:PlainIx (.Constant (.int 2) j p3):=by intro _ _; rfl):EV X (.Subscript (.Name x p1) (.Constant (.int 2) j p3) pos) (Q7H i) [] []:=by
 refine ⟨_,pe_ix (QdG hu) n.pe pe_int hs,fun Y F H δ σ A S z δ' e Q k=>?_⟩
 unfold Q7H at e
 cases e0:Q1J i δ with
 | none=>rw [e0] at e; cases e
 | some w =>
  rw [e0] at e
  cases e
  obtain ⟨p,q,s1,s2,s3,s4⟩:=S.dk e0
  exact ⟨.ref p,s1,.inl (.inl ⟨p,_,2,.int w.2.2,rfl,rfl,SqL.of s3,rfl,k _ F H Stp.refl S (.inl (.int _))⟩)⟩
def Qe1 (i:Nat):List Sl → Option (Bool × List Sl):=fun δ=>(Q1J i δ).bind fun w=>(eqD (.list (w.1.map Q0)) (.list [])).map fun b=>(b,δ)
theorem QjI {j} {p3 p4} (hu:X.A.units + 65 < cLine) (n:Nm X i x) (hs:PlainIx (.Constant (.int 0) j p3):=by intro _ _; rfl) (hm:behindInMarks .Eq (.List [] p4) = false:=by rfl):TV X (.Compare (.Subscript (.Name x p1) (.Constant (.int 0) j p3) p2) [.Eq] [.List [] p4] pos) (Qe1 i) []:=by
 refine ⟨_,pt_cmpR (Kj hu).op (pe_ix (QdG (by omega)) n.pe pe_int hs) (pe_lst pa_nil) hm,fun Y F H δ σ A S z δ' e Q k=>?_⟩
 unfold Qe1 at e
 cases e0:Q1J i δ with
 | none=>rw [e0] at e; cases e
 | some w =>
  rw [e0] at e
  simp only [Q1] at e
  cases e1:eqD (.list (w.1.map Q0)) (.list []) with
  | none=>rw [e1] at e; cases e
  | some b =>
   rw [e1] at e
   cases e
   obtain ⟨p,q,s1,s2,s3,s4⟩:=S.dk e0
   refine ⟨.ref p,s1,.inl (.inl ⟨p,_,0,.ref q,rfl,rfl,SqL.of s3,rfl,?_⟩)⟩
   refine ⟨Jo _,fun c hc=>?_⟩
   have ne:q ≠ c:=fun z=>by rw [z] at s4; rw [s4] at hc; cases hc
   refine ⟨upd H c (.lst []),_,_,z,Same.refl _,.lst (by rw [upd_ne ne]; exact s4) (Q58 _),.lst upd_same .nil,e1,?_⟩
   exact ⟨z,rfl,k F _ (Stp.laidO hc) (S.laidO hc)⟩
def Q7M (i:Nat):List Sl → Option (D × List Sl):=fun δ=>(Q1J i δ).bind fun w=>(w.1[w.1.length - 1]?).map fun d=>(.int d,δ.set i (.dk w.1.dropLast w.2.1 w.2.2))
theorem Qer {j} {p3} (hu:X.A.units + 1 < cLine) (n:Nm X i x) (hs:PlainIx (.Constant (.int 0) j p3):=by intro _ _; rfl) (m:Mc0 X (.Subscript (.Name x p1) (.Constant (.int 0) j p3) p2) "pop" apos pos) :
  EV X (.Call (.Attribute (.Subscript (.Name x p1) (.Constant (.int 0) j p3) p2) "pop" apos) [] [] pos) (Q7M i) [] [i]:=by
 refine ⟨_,pe_bm0 PySem.F.plainAttrs_list PySem.F.slot_list_pop PySem.F.type_list_pop mt_pop (pe_ix (QdG hu) n.pe pe_int hs) m.base m.line,fun Y F H δ σ A S z δ' e Q k=>?_⟩
 unfold Q7M at e
 cases e0:Q1J i δ with
 | none=>rw [e0] at e; cases e
 | some w =>
  rw [e0] at e
  simp only [Q1] at e
  cases e1:w.1[w.1.length - 1]? with
  | none=>rw [e1] at e; cases e
  | some d =>
   rw [e1] at e
   cases e
   obtain ⟨p,q,s1,s2,s3,s4⟩:=S.dk e0
   have hpq:=QeE s3 s4
   refine ⟨.ref p,s1,.inl (.inl ⟨p,_,0,.ref q,rfl,rfl,SqL.of s3,rfl,?_⟩)⟩
   refine ⟨tyL s4,q,_,.int d,rfl,rfl,s4,by rw [Q4,Qp,e1]; rfl,?_⟩
   have out:∀ a,a ∉ A i → upd H q (.lst (w.1.map V.int).dropLast) a = H a:=fun a ha=>upd_ne fun z=>ha (by rw [s2,z]; simp)
   refine k _ F _ (Stp.chgS (i:=i) (by simp) out) (S.chgS (S.dkI e0) out ⟨p,q,by rw [s1]; rfl,s2,?_,?_⟩) (.inl (.int _))
   ·rw [upd_ne hpq]
    exact s3
   ·rw [upd_same,List.map_dropLast]
def Q5c (i:Nat) (f:List Sl → Option (D × List Sl)):List Sl → Option (D × List Sl):=fun δ=>(Q1J i δ).bind fun _=>(f δ).bind fun p=>match p.1 with
 | .int v=>(Q1J i p.2).bind fun w=>if w.1.length < sizeLine then some (.none,p.2.set i (.dk (w.1 ++ [v]) w.2.1 w.2.2)) else none
 | _=>none
theorem Qei {j} {p3} {e:Expr} {f} (hu:X.A.units + 1 < cLine) (n:Nm X i x) (hs:PlainIx (.Constant (.int 0) j p3):=by intro _ _; rfl) (h:EV X e f [] []) (m:Mc X (.Subscript (.Name x p1) (.Constant (.int 0) j p3) p2) "append" apos e [] pos) :
  EV X (.Call (.Attribute (.Subscript (.Name x p1) (.Constant (.int 0) j p3) p2) "append" apos) [e] [] pos) (Q5c i f) [] [i]:=by
 obtain ⟨t,pe,q⟩:=h
 refine ⟨_,pe_bm PySem.F.plainAttrs_list PySem.F.slot_list_append PySem.F.type_list_append mt_append (pe_ix (QdG hu) n.pe pe_int hs) (pa_cons pe pa_nil m.star) m.base m.few m.line m.star m.plain,fun Y F H δ σ A S z δ' e Q k=>?_⟩
 unfold Q5c at e
 cases e0:Q1J i δ with
 | none=>rw [e0] at e; cases e
 | some w0 =>
  rw [e0] at e
  simp only [Q1] at e
  cases e1:f δ with
  | none=>rw [e1] at e; cases e
  | some u =>
   obtain ⟨d,δ1⟩:=u
   rw [e1] at e
   simp only [Q1] at e
   split at e
   ·rename_i v
    cases e2:Q1J i δ1 with
    | none=>rw [e2] at e; cases e
    | some w =>
     rw [e2] at e
     simp only [Q1] at e
     split at e
     ·rename_i hz
      cases e
      obtain ⟨p,q0,s1,s2,s3,s4⟩:=S.dk e0
      refine ⟨.ref p,s1,.inl (.inl ⟨p,_,0,.ref q0,rfl,rfl,SqL.of s3,rfl,?_⟩)⟩
      refine ⟨tyL s4,?_⟩
      refine q Y F H δ σ A S _ δ1 e1 _ fun y F1 H1 st S1 r=>?_
      obtain ⟨p',q',t1,t2,t3,t4⟩:=S1.dk e2
      have:q' = q0:=by
       rw [s2] at t2
       injection t2 with _ t2
       injection t2 with t2
       exact t2.symm
      subst this
      rw [r.int]
      have hpq:=QeE t3 t4
      refine ⟨q',_,.int v,rfl,rfl,t4,by rw [Q4]; exact hz,?_⟩
      have out:∀ a,a ∉ A i → upd H1 q' (.lst (w.1.map V.int ++ [.int v])) a = H1 a:=fun a ha=>upd_ne fun z=>ha (by rw [t2,z]; simp)
      refine k _ F1 _ (((st.mono fun _ h=>h).trans S1 (Stp.chgS (M:=[i]) (i:=i) (by simp) out)).mono fun j hj=>by simpa using hj) (S1.chgS (S1.dkI e2) out ⟨p',q',by rw [t1]; rfl,t2,?_,?_⟩) (.inl .non)
      ·rw [upd_ne hpq]
       exact t3
      ·rw [upd_same,Jw]
       rfl
     ·cases e
   ·cases e
def QdW (i:Nat) (f:List Sl → Option (D × List Sl)):List Sl → Option Out:=fun δ=>(f δ).bind fun p=>match p.1 with
 | .int v=>(Q1J i p.2).map fun w=>.nx (p.2.set i (.dk w.1 w.2.1 v))
 | _=>none
theorem Qjr {io:Iom} {fr:Fr} {j} {p3} {v:Expr} {fv} {M:List Nat} {p1 tpos:Pos} (hu:X.A.units + 1 < cLine) (n:Nm X i x) (hv:EV X v fv [] M) (c:Pc X (.Name x p1) (.Constant (.int 2) j p3) v tpos pos.line) :
  SV X io fr (.Assign [.Subscript (.Name x p1) (.Constant (.int 2) j p3) tpos] v pos) (QdW i fv):=by
 obtain ⟨tv,pv,qv⟩:=hv
 refine ⟨_,ps_asg pv (pg_sub n.pe pe_int (QhT hu) c.as) c.sw c.st c.ea,fun Y F H δ σ A hY S o e D k=>?_⟩
 unfold QdW at e
 cases e1:fv δ with
 | none=>rw [e1] at e; cases e
 | some u =>
  obtain ⟨d,δ1⟩:=u
  rw [e1] at e
  simp only [Q1] at e
  split at e
  ·rename_i v'
   cases e2:Q1J i δ1 with
   | none=>rw [e2] at e; cases e
   | some w =>
    rw [e2] at e
    cases e
    refine qv Y F H δ σ A S _ δ1 e1 _ fun y F1 H1 st S1 r=>?_
    obtain ⟨p,q,s1,s2,s3,s4⟩:=S1.dk e2
    refine ⟨.ref p,s1,?_⟩
    rw [r.int]
    have hpq:=QeE s3 s4
    refine .inl ⟨p,_,2,2,rfl,rfl,s3,rfl,?_⟩
    have out:∀ a,a ∉ A i → upd H1 p (.lst ([V.ref q,.int w.2.1,.int w.2.2].set 2 (.int v'))) a = H1 a:=fun a ha=>upd_ne fun z=>ha (by rw [s2,z]; simp)
    refine k σ F1 _ A st.f (S1.chgS (S1.dkI e2) out ⟨p,q,by rw [s1]; rfl,s2,?_,?_⟩)
    ·rw [upd_same]
     rfl
    ·rw [upd_ne (Ne.symm hpq)]
     exact s4
  ·cases e
end
end Z
namespace Z
open PySem PySem.Spec PyProof.Rows L2
def Wr (ns:List Int):List Int:=(ns.take 63).reverse
def Q7O (ns:List Int):Int:=(Wr ns).sum % 2147483629 + 48271 * (Wr ns).length
theorem Qkq {α:Type} (xs:List α):Yn xs none (some 63) = xs.take 63:=by
 unfold Yn
 rw [show HT.sIx xs.length 0 none = 0 from rfl,List.drop_zero,Nat.sub_zero]
 have h:HT.sIx xs.length xs.length (some 63) = min 63 xs.length:=by
  unfold HT.sIx
  simp
  try omega
 rw [h]
 by_cases c:xs.length ≤ 63
 ·rw [Nat.min_eq_right c,X5 (Jf _),X5 c]
 ·rw [Nat.min_eq_left (by omega)]
section
variable {X:Cx} {x:Str} {i:Nat} {pos:Pos}
def Q9N (i:Nat):List Sl → Option (D × List Sl):=fun δ=>match δ[i]? with
 | some (.scr ns)=>some (.list ((Wr ns).map Q0),δ)
 | _=>none
theorem QdH {p p2 pos2 p3 p4 p5 p6:Pos} {j} (hc:X.calm = true) (hg:Gl X "list") (hm:X.mg "list" = none) (hg2:Gl X "reversed") (hm2:X.mg "reversed" = none) (n:Nm X i x)
  (hs:starEach [.Subscript (.Name x p3) (.Slice none (some (.Constant (.int 63) j p6)) none p4) p5] X.env = (false,eval (.Subscript (.Name x p3) (.Slice none (some (.Constant (.int 63) j p6)) none p4) p5) X.env) :: starEach [] X.env)
  (hs2:starEach [.Call (.Name "reversed" p2) [.Subscript (.Name x p3) (.Slice none (some (.Constant (.int 63) j p6)) none p4) p5] [] pos2] X.env = (false,eval (.Call (.Name "reversed" p2) [.Subscript (.Name x p3) (.Slice none (some (.Constant (.int 63) j p6)) none p4) p5] [] pos2) X.env) :: starEach [] X.env) :
  NV X (.Call (.Name "list" p) [.Call (.Name "reversed" p2) [.Subscript (.Name x p3) (.Slice none (some (.Constant (.int 63) j p6)) none p4) p5] [] pos2] [] pos) (Q9N i) []:=by
 refine ⟨_,QdY hc hg hm hg2 hm2 (pe_slice sl_list n.pe po_none (po_some pe_int)) hs hs2,fun Y F H δ σ A S z δ' e Q k=>?_⟩
 unfold Q9N at e
 split at e
 ·rename_i ns e0
  cases e
  obtain ⟨e1,a,e2,e3⟩:=S.slot i _ e0
  refine ⟨.ref a,Wh e2,63,rfl,a,ns.map V.int,rfl,S.sub.seq e3,fun b hb=>?_⟩
  have ec:cutV (ns.map V.int) none (some 63) = (ns.take 63).map V.int:=by
   show Yn (ns.map V.int) none (some 63) = _
   rw [Qkq,List.map_take]
  refine ⟨b,_,rfl,.inl (.inl upd_same),fun c hc2=>?_⟩
  rw [ec] at hc2 ⊢
  rw [← List.map_reverse]
  have hcb:H c = none:=by
   by_cases z:c = b
   ·subst z
    exact hb
   ·rw [upd_ne z] at hc2
    exact hc2
  have S1:=S.laidO (o:=.lst ((ns.take 63).map V.int)) hb
  have S2:=S1.laidO (p:=c) (o:=.lst ((ns.take 63).reverse.map V.int)) hc2
  have st:Stp A [] F H F (upd (upd H b (.lst ((ns.take 63).map V.int))) c (.lst ((ns.take 63).reverse.map V.int))) :=
   Vj S1 (Stp.laidO hb) (Stp.laidO hc2)
  exact k c F _ st S2 hcb (S.sub.free hcb) ⟨_,upd_same,Q58 _⟩
 ·cases e
end
def QjQ (K:PySem.W.Frag):Sp:=fun us H Q _=>∃ (u:V) (F:Hp) (ns:List Int),us = [u] ∧ Same F H ∧ (∃ a,u = .ref a ∧ SqL K F a (ns.map V.int)) ∧
 ∀ p q F' H',Stp (fun _=>[]) [] F H F' H' → Same F' H' → H p = none → H q = none → F' p = none → F' q = none → p ≠ q → H' p = some (.lst [.ref q,.int (Q7O ns),.int 0]) → H' q = some (.lst ((Wr ns).map V.int)) → Q (.ref p) H'
section
variable {P:Program} {w:World} {K:PySem.W.Frag} {mg:Str → Option Value} {base:Heap} {CX:CXT} {k:Nat} {f:Addr} {fd:FuncData} {x y:Str}
theorem Qhr {qual:Str} {st:Stmt} {nm:Str} {s1:Stmt} {e1 e2:Expr} {f1:List Sl → Option (D × List Sl)} {p1 p2 p3:Pos} (Fu:Fun K nm qual st f fd) (S:FnScope [x,y] [x] (defScope st)) (hbd:defBody st = [s1,.Return (some (.List [.Name y p1,e1,e2] p2)) p3])
  (hf:∀ ns,f1 [.scr ns,.ow (.list ((Wr ns).map Q0))] = some (.int (Q7O ns),[.scr ns,.ow (.list ((Wr ns).map Q0))]))
  (body:∀ (cd:Value) (A:Around) (out:List Env) (s:Shared) (G:Hp) (E:XK),A.guards = some [] → Room k (A.deeper (envOfC qual (defScope st) s.heap.objs.size f cd)) →
   SV (cxOf CX P w K mg base [x,y] qual (defScope st) f cd A out s G E) (Iom.of fun _=>false) .n s1 (Q1c 1 (Q9N 0)) ∧
   CV (cxOf CX P w K mg base [x,y] qual (defScope st) f cd A out s G E) [.Name y p1,e1,e2] (kIo 1 (Y8 f1 (Y8 (Xp (.int 0)) V2))) [] []) :
  FnG P w K mg base CX (k + 1) f fd [x] (QjQ K):=by
 refine FnG.mk' Fu S (fun us G Q E h=>by obtain ⟨u,_,_,rfl,_⟩:=h; rfl) fun cd A out s G us Q E hG hR h=>?_
 obtain ⟨⟨t1,q1,b1⟩,⟨t2,q2,b2⟩⟩:=body cd A out s G E hG hR
 obtain ⟨u,F,ns,rfl,sF,⟨a,rfl,hs⟩,kk⟩:=h
 rw [hbd]
 refine ⟨_,pss_cons q1 (pss_cons (ps_ret (pe_lst q2)) pss_nil),?_⟩
 have S0:SR K ⟨Iom.of fun _=>false,fun _=>false,fun _=>false,G,F,[],fun _=>[],fun _ _=>rfl⟩ F G [.scr ns,.no] (L2.start [x,y] [.ref a]) (fun _=>[]):=by
  refine ⟨rfl,fun i s e=>?_,fun _ _=>rfl,fun _ _ _ h=>by simp at h,fun _ _ h=>by simp at h,fun _ _ h=>by simp at h,sF,fun _ h=>by simp at h,fun _ h=>by simp at h,fun _ _ e _=>e,fun _ e n=>absurd e n,Same.refl _,fun _ h=>(by rcases h with h | h <;> cases h),fun i _ _ e=>(by match i,e with | 0,e=>cases e | 1,e=>cases e | _ + 2,e=>simp at e),fun _ h=>by cases h⟩
  match i,e with
  | 0,e=>cases e; exact ⟨rfl,a,rfl,hs⟩
  | 1,e=>cases e; exact rfl
  | _ + 2,e=>simp at e
 refine b1 _ F G _ _ _ rfl S0 (.nx [.scr ns,.ow (.list ((Wr ns).map Q0))]) rfl _ ?_
 intro σ' F1 H1 A1 s01 S1
 refine b2 _ F1 H1 _ _ _ S1 [.io 1,.d (.int (Q7O ns)),.d (.int 0)] [.scr ns,.ow (.list ((Wr ns).map Q0))] ?_ _ ?_
 ·simp only [kIo,Y8,V2,hf ns]
  rfl
 ·intro vs F2 H2 st2 S2 r
  match vs,r with
  | [v0,v1,v2],⟨r0,r1,r2,_⟩ =>
   have e1:=r1.int
   have e2:=r2.int
   subst e1
   subst e2
   obtain ⟨q,g1,g2,xs,g3,g4⟩:=S2.slot 1 _ rfl
   have e0:v0 = .ref q:=by
    have:=Wh g1
    rw [r0] at this
    cases this
    rfl
   subst e0
   have e3:=g4.ints
   subst e3
   refine ⟨by show 3 ≤ sizeLine; decide,fun p hp=>?_⟩
   have hq2:F2 q = none:=S2.hid 1 q (by rw [g2]; simp)
   have hqG:G q = none:=S2.new 1 q (by rw [g2]; simp) rfl
   have hpq:p ≠ q:=fun z=>by rw [z,g3] at hp; cases hp
   have keep:∀ b o,G b = some o → H2 b = some o:=fun b o e=>S2.kp b o e fun i hi=>by cases hi
   have hpG:G p = none:=by
    cases z:G p with
    | none=>rfl
    | some o=>rw [keep p o z] at hp; cases hp
   refine kk p q F2 _ ⟨S2.f0,S2.nw,fun b o e _=>?_⟩ (fun b o e=>?_) hpG hqG (S2.sub.free hp) hq2 hpq upd_same ?_
   ·rw [upd_ne (ne_of_none (keep b o e) hp)]
    exact keep b o e
   ·rw [upd_ne (ne_of_none (S2.sub b o e) hp)]
    exact S2.sub b o e
   ·rw [upd_ne (Ne.symm hpq)]
    exact g3
  | [],r=>exact r.elim
  | [_],r=>exact r.2.elim
  | [_,_],r=>exact r.2.2.elim
  | _ :: _ :: _ :: _ :: _,r=>exact r.2.2.2.elim
end
section
variable {X:Cx} {nm x y:Str} {p pos py p1:Pos}
structure KnD (X:Cx) (x:Str):Prop where
 ex:∃ (CX:CXT) (k:Nat) (a:Addr) (fd:FuncData) (ps:List Str),FnG X.prog X.w X.K X.mg X.base CX k a fd ps (QjQ X.K) ∧ Room k X.A ∧ X.mg x = some (.ref a) ∧ PySem.W.keepIn X.K (.ref a) = true ∧ Binds X.K fd ps [] ∧ Passes CX X E0
 gd:X.A.guards = some []
 gl:Gl X x
 db:(x == ("__debug__":Str)) = false
def QaW (i j:Nat):List Sl → Option Out:=fun δ=>match δ[j]? with
 | some (.scr ns)=>if i < δ.length then some (.nx (δ.set i (.dk (Wr ns) (Q7O ns) 0))) else none
 | _=>none
theorem QgG {io:Iom} {fr:Fr} {i j:Nat} (hio:io i = false) (T:Tg X i y) (n:Nm X j x) (kn:KnD X nm)
  (h1:starEach [.Name x p1] X.env = (false,eval (.Name x p1) X.env) :: starEach [] X.env:=by rfl) (h2:(backTo p (starEach [] X.env)).any (·.1) = false:=by rfl)
  {pst:Pos} (hs:swapsWith (.Call (.Name nm pos) [.Name x p1] [] p) (some (.Name y py)) pst.line X.env = pure false:=by rfl) :
  SV X io fr (.Assign [.Name y py] (.Call (.Name nm pos) [.Name x p1] [] p) pst) (QaW i j):=by
 obtain ⟨CX,k,a,fd,ps,Fn,hR,hm,hk,hb,hx⟩:=kn.ex
 refine ⟨_,ps_set T.nd T.at_ T.loc (Fn.pe kn.gd hR kn.gl hm hk hb hx (pa_cons n.pe pa_nil h1) kn.db h1 h2) hs T.fn,fun Y F H δ σ A hY S o e D kk=>?_⟩
 unfold QaW at e
 split at e
 ·rename_i ns e0
  split at e
  ·rename_i hi
   cases e
   obtain ⟨e1,b,e2,e3⟩:=S.slot j _ e0
   refine ⟨.ref b,Wh e2,.ref b,F,ns,rfl,S.sub,⟨b,rfl,e3⟩,fun p q F' H' st sFH hp hq hpF hqF hpq hp' hq'=>?_⟩
   have st0:Stp (Q0X A []) (Jj ([]:List Ar).length) (ex [] A F H) H F' H':=by
    rw [Qff]
    exact ⟨st.f,st.nw,fun a o e _=>st.kp a o e (by simp)⟩
   have S0:SR X.K Fx.any F' H' [] (([]:List V).map some) (Q0X A []):=by
    refine ⟨rfl,fun i s e=>by simp at e,fun _ _=>rfl,fun _ _ _ h=>by simp [Q0X] at h,fun _ _ h=>by simp [Q0X] at h,fun _ _ h=>by simp [Q0X] at h,sFH,fun _ h=>(by cases h),fun _ h=>(by cases h),fun _ _ e=>(by cases e),fun _ _ _=>rfl,fun _ _ e=>(by cases e),fun _ h=>(by rcases h with h | h <;> cases h),fun i _ _ e=>(by simp at e),fun _ h=>(by cases h)⟩
   obtain ⟨st3,S3,_⟩:=S.behind (as:=[]) (vs:=[]) (R:=[]) (outs:=[]) rfl trivial st0 S0 rfl
   rw [Q3f] at st3 S3
   have S3:SR X.K Y F' H' δ σ A:=S3
   have nA:∀ c,H c = none → ∀ j,c ∉ A j:=fun c hc j m=>S.isSome m hc
   have S4:=S3.put (i:=i) hi (by rw [hY]; exact hio) (s:=.dk (Wr ns) (Q7O ns) 0) (v:=some (.ref p)) (l:=[p,q]) (fun _ _=>by simp) ⟨p,q,rfl,rfl,hp',hq'⟩
    (fun c hc=>by simp at hc; rcases hc with rfl | rfl <;> assumption) (fun c hc=>by simp at hc; rcases hc with rfl | rfl; exact S.fresh0 hp; exact S.fresh0 hq)
    (fun c hc j _=>by simp at hc; rcases hc with rfl | rfl; exact nA _ hp j; exact nA _ hq j)
   exact kk _ F' H' _ st.f S4
  ·cases e
 ·cases e
end
end Z
namespace Z
open PySem PySem.Spec PyProof.Rows L2
theorem hu1 {A:Around} {k:Nat} (hr:Room k A):A.units + 1 < cLine:=by have:=hr.un; omega
theorem Z9 {A:Around} {k:Nat} (hr:Room k A):A.units + 65 < cLine:=by have:=hr.un; omega
theorem Zi {A:Around} {k:Nat} (hr:Room k A):A.units + 66 < cLine:=by have:=hr.un; omega
def CVn (X:Cx) (es:List Expr) (f:List Sl → Option (List Ar × List Sl)) (R M:List Nat) (n:Nat) (B:List Nat):Prop:=CV X es f R M ∧ ∀ δ as δ',f δ = some (as,δ') → as.length = n ∧ ∀ i ∈ ios as,i ∈ B
section
variable {X:Cx} {a:Expr} {es:List Expr} {fa fr} {Ra Rr Ma Mr B:List Nat} {n:Nat} {pos:Pos}
theorem Yb:CVn X [] V2 [] [] 0 []:=⟨Qf6,fun δ as δ' e=>by cases e; exact ⟨rfl,fun _ h=>h⟩⟩
theorem Xy (ha:EV X a fa Ra Ma) (hr:CVn X es fr Rr Mr n B) (dj:∀ i ∈ Ra,i ∉ Mr:=by decide) (hs:starEach (a :: es) X.env = (false,eval a X.env) :: starEach es X.env:=by rfl):CVn X (a :: es) (Y8 fa fr) (Ra ++ Rr) (Ma ++ Mr) (n + 1) B:=by
 refine ⟨Q90 ha hr.1 dj hs,fun δ as δ' e=>?_⟩
 unfold Y8 at e
 cases e1:fa δ with
 | none=>rw [e1] at e; cases e
 | some p =>
  rw [e1] at e
  simp only [Q1] at e
  cases e2:fr p.2 with
  | none=>rw [e2] at e; cases e
  | some q =>
   rw [e2] at e
   cases e
   obtain ⟨h1,h2⟩:=hr.2 _ q.1 q.2 e2
   exact ⟨by rw [Qh,h1],h2⟩
theorem Vf {i:Nat} {x:Str} (nm:Nm X i x) (hr:CVn X es fr Rr Mr n B) (hs:starEach (.Name x pos :: es) X.env = (false,eval (.Name x pos) X.env) :: starEach es X.env:=by rfl):CVn X (.Name x pos :: es) (kIo i fr) Rr Mr (n + 1) (i :: B):=by
 refine ⟨Qi5 nm hr.1 hs,fun δ as δ' e=>?_⟩
 unfold kIo at e
 split at e
 ·cases e2:fr δ with
  | none=>rw [e2] at e; cases e
  | some q =>
   rw [e2] at e
   cases e
   obtain ⟨h1,h2⟩:=hr.2 _ q.1 q.2 e2
   exact ⟨by rw [Qh,h1],fun j hj=>by
    rcases Qg.mp hj with z | z
    ·subst z; exact Q7
    ·exact Q6 _ (h2 j z)⟩
 ·cases e
theorem Q4V:∀ δ ds δ',Yg δ = some (ds,δ') → ds.length = 0:=fun _ _ _ e=>by cases e; rfl
theorem Q2M {n:Nat} (h:∀ δ ds δ',(fr:List Sl → Option (List D × List Sl)) δ = some (ds,δ') → ds.length = n):∀ δ ds δ',Xq fa fr δ = some (ds,δ') → ds.length = n + 1:=fun δ ds δ' e=>by
 obtain ⟨d,δ1,r,_,e2,rfl⟩:=Q4F e
 rw [Qh,h _ _ _ e2]
end
def tN:Tt → Nat
 | .nm _=>0
 | .nil=>0
 | .cons _ b=>tN b + 1
def tOk:Tt → Bool
 | .nm _=>true
 | .nil=>true
 | .cons _ (.nm _)=>false
 | .cons _ b=>tOk b
theorem Qch:∀ (T:Tt) (ds:List D) (δ δ':List Sl),(∀ i,T ≠ .nm i) → tOk T = true → Vy T ds δ = some δ' → ds.length = tN T
 | .nm i,_,_,_,h,_,_=>absurd rfl (h i)
 | .nil,[],_,_,_,_,_=>rfl
 | .nil,_ :: _,_,_,_,_,e=>by unfold Vy at e; cases e
 | .cons a b,[],_,_,_,_,e=>by unfold Vy at e; cases e
 | .cons a b,d :: ds,δ,δ',_,ok,e=>by
  unfold Vy at e
  cases e1:Vu a d δ with
  | none=>rw [e1] at e; cases e
  | some δ1 =>
   rw [e1] at e
   have hb:∀ i,b ≠ .nm i:=fun i z=>by subst z; cases ok
   have ok2:tOk b = true:=by
    cases b with
    | nm i=>exact absurd rfl (hb i)
    | nil=>rfl
    | cons _ _=>exact ok
   exact congrArg (· + 1) (Qch b ds δ1 δ' hb ok2 e)
theorem Q8Z {X:Cx} {es:List Expr} {k:Nat} {pos:Pos} {T:Tt} (hc:X.calm = true) (h:GsV X es T) (hT:∀ i,T ≠ .nm i:=by intro _ z; cases z) (ok:tOk T = true:=by rfl) (hn:(assignEach es X.env).length = tN T:=by rfl) (hst:(assignEach es X.env).findIdx? (·.1) = none:=by rfl):GV X (.Tuple es k pos) T :=
 QiY hc h hT hn (fun ds δ δ' e=>Qch T ds δ δ' hT ok e) hst
structure GK (P:Program) (w:World) (K:PySem.W.Frag) (mg:Str → Option Value) (base:Heap) (x:Str) (k n:Nat) (fr:Fr) (φ:List Sl → Option (D × List Sl)):Prop where
 ex:∃ (a:Addr) (fd:FuncData) (ps:List Str),FnG P w K mg base CX0 k a fd ps (spF K ps.length fr φ) ∧ ps.length = n ∧ mg x = some (.ref a) ∧ PySem.W.keepIn K (.ref a) = true ∧ Binds K fd ps []
structure GKD (P:Program) (w:World) (K:PySem.W.Frag) (mg:Str → Option Value) (base:Heap) (x:Str) (k:Nat):Prop where
 ex:∃ (a:Addr) (fd:FuncData) (ps:List Str),FnG P w K mg base CX0 k a fd ps (QjQ K) ∧ mg x = some (.ref a) ∧ PySem.W.keepIn K (.ref a) = true ∧ Binds K fd ps []
section
variable {X:Cx} {x:Str} {k j n:Nat} {fr:Fr} {φ:List Sl → Option (D × List Sl)}
theorem GK.kn (g:GK X.prog X.w X.K X.mg X.base x k n fr φ) (hR:Room j X.A) (hG:X.A.guards = some []) (gl:Gl X x:=by rfl) (hk:k ≤ j:=by decide) (db:(x == ("__debug__":Str)) = false:=by decide):Kn X x n fr φ:=by
 obtain ⟨a,fd,ps,h1,h2,h3,h4,h5⟩:=g.ex
 exact ⟨⟨CX0,k,a,fd,ps,h1,h2,hR.mono hk,h3,h4,h5,pass0⟩,hG,gl,db⟩
theorem GKD.kn (g:GKD X.prog X.w X.K X.mg X.base x k) (hR:Room j X.A) (hG:X.A.guards = some []) (gl:Gl X x:=by rfl) (hk:k ≤ j:=by decide) (db:(x == ("__debug__":Str)) = false:=by decide):KnD X x:=by
 obtain ⟨a,fd,ps,h1,h3,h4,h5⟩:=g.ex
 exact ⟨⟨CX0,k,a,fd,ps,h1,hR.mono hk,h3,h4,h5,pass0⟩,hG,gl,db⟩
end
def GC (K:PySem.W.Frag) (mg:Str → Option Value) (x:Str) (d:D):Prop:=∃ u v,mg x = some u ∧ kRp K 40 u = some (v,d)
def GCt (K:PySem.W.Frag) (mg:Str → Option Value) (x:Str) (ds:List D):Prop:=∃ u v,mg x = some u ∧ kRp K 40 u = some (v,.tuple ds) ∧ kDn K u = true
theorem GCt.c {K:PySem.W.Frag} {mg:Str → Option Value} {x:Str} {ds:List D} (h:GCt K mg x ds):GC K mg x (.tuple ds):=by
 obtain ⟨u,v,h1,h2,_⟩:=h
 exact ⟨u,v,h1,h2⟩
theorem Q82 {X:Cx} {x:Str} {d:D} {pos:Pos} (c:GC X.K X.mg x d) (hg:Gl X x:=by rfl) (db:(x == ("__debug__":Str)) = false:=by decide):EV X (.Name x pos) (Xp d) [] []:=Qk8 hg ⟨c,db⟩
theorem Qet {H:Hp} (hO:L2.Only H) {b:Addr} {o:HO} (e:H b = some o):∃ ob xs,o = .frz ob (.lst xs):=by
 rcases hO b with z | ⟨ob,xs,z⟩
 ·rw [e] at z; cases z
 ·rw [e] at z; cases z; exact ⟨ob,xs,rfl⟩
theorem QbY {K:PySem.W.Frag} {φ:List Sl → Option (D × List Sl)} {H:Hp} {a:Addr} {ns:List Int} (hS:SqL K H a (ns.map V.int)) {outs:List Sl} (hφ:φ [.scr ns] = some (.bool true,outs)):spF K 1 .n φ [.ref a] H (fun v _=>v = .bl true) (fun _ _ _=>False):=by
 refine ⟨H,[.scr ns],fun _=>[],rfl,?_,.bool true,outs,hφ,fun v F' H' _ _ r=>?_⟩
 ·refine ⟨rfl,fun i s e=>?_,fun _ _=>rfl,fun _ _ _ h=>by simp at h,fun _ _ h=>by simp at h,fun _ _ h=>by simp at h,Same.refl _,fun _ h=>(by cases h),fun _ h=>(by cases h),fun _ _ e=>(by cases e),fun _ _ _=>rfl,fun _ _ e=>(by cases e),fun _ h=>(by rcases h with h | h <;> cases h),fun i _ _ e=>(by match i,e with | 0,e=>cases e | _ + 1,e=>simp at e),fun _ h=>(by cases h)⟩
  match i,e with
  | 0,e=>cases e; exact ⟨rfl,a,rfl,hS⟩
  | _ + 1,e=>simp at e
 ·exact Q5l r
theorem Qkf {P:Program} {w:World} {K:PySem.W.Frag} {mg mb:Str → Option Value} {k:Nat} {fa a:Addr} {fd:FuncData} {x:Str} {φ:List Sl → Option (D × List Sl)} {s1:Shared} {vs:List Value} {ns:List Int}
  (KX:K.In s1.heap) (hns:s1.heap.Ns mainGlobals mg) (hb:s1.heap.Ns builtinsNs mb) (hbb:∀ x:Str,x ≠ "__name__" → mb x = bootBuiltins x) (hlim:s1.heap.NoLimit) (hg:s1.gens = #[])
  (ha:s1.heap.get? a = some { cls:=.type "list",data:=.seq vs.toArray }) (hi:IntsAre vs ns) (hl:ns.length ≤ sizeLine) (hr:Room k callerA)
  (Fn:∀ base:Heap,K.In base → base.Ns mainGlobals mg → FnG P w K mg base CX0 k fa fd [x] (spF K 1 .n φ)) (hbind:∀ (s:Shared) (u:Value),BindsTo s fd ⟨[u],[]⟩ [(x,u)])
  (hφ:∃ outs,φ [.scr ns] = some (.bool true,outs)) :
  codeAny (model P w) callerA (.call (.ref fa) ⟨[.ref a],[]⟩) (fun r s'=>r = .ok (.ret (.bool true)) ∧ OldK s1.heap s'.heap ∧ s'.os = s1.os ∧ AllBare s'.gens) s1:=by
 obtain ⟨outs,hφ⟩:=hφ
 have rv:=vals_ints hi
 have lv:=hi.length
 -- the heap H: nothing,or the script alone
 have go:∀ H:Hp,L2.Only H → SqL K H a (ns.map V.int) → HOk P w H s1.heap → (∀ b,H b ≠ none → b = a) → (H a ≠ none → K.lookup a = none) →
   codeAny (model P w) callerA (.call (.ref fa) ⟨[.ref a],[]⟩) (fun r s'=>r = .ok (.ret (.bool true)) ∧ OldK s1.heap s'.heap ∧ s'.os = s1.os ∧ AllBare s'.gens) s1:=by
  intro H hO hS hok hA hK
  have free:∀ {b:Addr} {o:Obj},s1.heap.get? b = some o → o.data ≠ .seq vs.toArray → H b = none:=fun {b o} e d=>by
   cases q:H b with
   | none=>rfl
   | some u =>
    obtain rfl:=hA b (by rw [q]; simp)
    rw [ha] at e
    cases e
    exact absurd rfl d
  have there:∀ {b:Addr} {o:Obj},s1.heap.get? b = some o → H b = none → (hidT s1.heap H).get? b = some o:=fun e n=>hidT_get e n
  have nsK:∀ {b:Addr} {m:Str → Option Value},s1.heap.Ns b m → (hidT s1.heap H).Ns b m:=fun {b m} ⟨o,es,ep,e,d,r⟩=>⟨o,es,ep,there e (free e (by rw [d]; intro z; cases z)),d,r⟩
  have hKb:K.In (hidT s1.heap H):=fun b o e=>there (KX b o e) (by
   cases q:H b with
   | none=>rfl
   | some u =>
    obtain rfl:=hA b (by rw [q]; simp)
    have:=hK (by rw [q]; simp)
    rw [e] at this
    cases this)
  have hM:Mod K mg (hidT s1.heap H):=by
   obtain ⟨mc,l1,l2⟩:=hlim
   exact ⟨hKb,nsK hns,⟨mb,nsK hb,hbb⟩,mc,nsK l1,l2⟩
  have e0:Env0 P w K mg (hidT s1.heap H) callerA [] s1 H:=⟨rfl,hM,fun b o e=>of_hidT e,Nat.le_of_eq (hidT_size _ _),trivial,fun b hb=>absurd (show b ∈ ([]:List Addr) from hb) (by simp),hok,.of_eq hg⟩
  have run:=(Fn _ hKb (nsK hns)).run callerA [] s1 H ⟨[.ref a],[]⟩ [.ref a] [.ref a] _ _ rfl hr e0 (hbind s1 (.ref a)) (.cons rfl .nil) (QbY hS hφ)
  refine codeAny_mono run fun r s' h=>?_
  match r,h with
  | .error _,h=>exact h.elim
  | .ok .next,h=>exact h.elim
  | .ok .brk,h=>exact h.elim
  | .ok .cont,h=>exact h.elim
  | .ok (.ret u),h =>
   obtain ⟨v,H',os,bare,un,hok',r',q⟩:=h
   obtain rfl:v = .bl true:=q
   obtain rfl:u = Value.bool true:=r'
   refine ⟨rfl,OldK.of_keep fun b o e=>?_,os,bare⟩
   cases q:H b with
   | none=>exact un.keep b o e q (fun z=>absurd (show b ∈ ([]:List Addr) from z) (by simp)) (by simp)
   | some u =>
    obtain ⟨ob,xs,rfl⟩:=Qet hO q
    obtain ⟨e1,_⟩:=hok b _ q
    obtain ⟨e2,_⟩:=hok' b _ (un.frzs b ob _ q)
    rw [e] at e1
    cases e1
    exact e2
 cases hk:K.lookup a with
 | some o =>
  have e:=KX a o hk
  rw [ha] at e
  cases e
  exact go (fun _=>none) (fun _=>.inl rfl) (.inr ⟨_,vs.toArray,_,hk,rfl,rfl,rfl,by rw [List.size_toArray,lv]; exact hl,by simpa using rv⟩) (fun b u z=>by cases (show (none:Option HO) = some u from z)) (fun b z=>absurd rfl z) (fun z=>absurd rfl z)
 | none =>
  have yes:∀ b,b = a → (if b = a then some (HO.frz { cls:=.type "list",data:=.seq vs.toArray } (.lst (ns.map V.int))) else none) = some (HO.frz { cls:=.type "list",data:=.seq vs.toArray } (.lst (ns.map V.int))):=fun b h=>if_pos h
  refine go (fun b=>if b = a then some (.frz { cls:=.type "list",data:=.seq vs.toArray } (.lst (ns.map V.int))) else none) (fun b=>?_) (.inl (.inr ⟨_,yes a rfl⟩)) (fun b u z=>?_) (fun b z=>?_) fun _=>hk
  ·by_cases c:b = a
   ·exact .inr ⟨_,_,yes b c⟩
   ·exact .inl (if_neg c)
  ·by_cases c:b = a
   ·subst c
    cases (yes b rfl).symm.trans z
    exact ⟨ha,by rw [Q4]; exact hl,vs,_,rv,ha⟩
   ·cases (if_neg c:(if b = a then some (HO.frz { cls:=.type "list",data:=.seq vs.toArray } (.lst (ns.map V.int))) else none) = none).symm.trans z
  ·by_cases c:b = a
   ·exact c
   ·exact absurd (if_neg c) z
end Z
namespace Z
open PySem PySem.Spec PyProof.Rows L2
section
variable {X:Cx} {x:Str} {i:Nat} {pos:Pos}
theorem nmk (i:Nat) (h:X.N[i]? = some x:=by rfl) (v:Vis X.env.scope x:=by first | exact .inl rfl | exact .inr (.inl rfl) | exact .inr (.inr rfl)) (db:(x == ("__debug__":Str)) = false:=by decide) (cd:(x == ("__classdict__":Str)) = false:=by decide):Nm X i x:=⟨h,v,db,cd⟩
theorem tgk (i:Nat) (nd:X.N.Nodup) (h:X.N[i]? = some x:=by rfl) (l:Loc X.env.scope x:=by first | exact .inl rfl | exact .inr rfl) (f:X.fn x = true ∨ X.env.scope.names.lookup x = some .local:=by first | exact .inr rfl | exact .inl rfl):Tg X i x:=⟨nd,h,l,f⟩
theorem bnk {v:Value} (m:X.mg x = none) (gl:Gl X x:=by rfl) (bt:bootBuiltins x = some v:=by decide +kernel) (nn:x ≠ "__name__":=by decide) (db:(x == ("__debug__":Str)) = false:=by decide):Bn X x v:=⟨gl,m,bt,nn,db⟩
theorem Xs (i:Nat) (h:X.N[i]? = some x:=by rfl) (v:Vis X.env.scope x:=by first | exact .inl rfl | exact .inr (.inl rfl) | exact .inr (.inr rfl)) (db:(x == ("__debug__":Str)) = false:=by decide) (cd:(x == ("__classdict__":Str)) = false:=by decide):EV X (.Name x pos) (Xr i) [] []:=Qfo h v db cd
def fRd (i:Nat):List Sl → Option (D × List Sl):=fun δ=>match δ[i]? with
 | some (.fz d)=>some (d,δ)
 | some (.ow (.list ds))=>some (.list ds,δ)
 | some (.lk ds)=>some (.dict ds,δ)
 | _=>none
theorem Ww (i:Nat) (h:X.N[i]? = some x:=by rfl) (v:Vis X.env.scope x:=by first | exact .inl rfl | exact .inr (.inl rfl) | exact .inr (.inr rfl)) (db:(x == ("__debug__":Str)) = false:=by decide) (cd:(x == ("__classdict__":Str)) = false:=by decide):EV X (.Name x pos) (fRd i) [i] []:=by
 obtain ⟨t,p,q⟩:=Qfo (pos:=pos) h v db cd
 obtain ⟨t2,p2,q2⟩:=Qjq (pos:=pos) h v db cd
 refine ⟨_,pe_var h v db cd,fun Y F H δ σ A S d δ' e Q k=>?_⟩
 unfold fRd at e
 split at e
 ·rename_i d0 hd
  cases e
  obtain ⟨_,u,e2,r⟩:=S.slot i _ hd
  exact ⟨u,Wh e2,k u F H Stp.refl S (.inl r)⟩
 ·rename_i d0 hd
  cases e
  obtain ⟨u,e2,e3,o⟩:=S.slot i _ hd
  exact ⟨_,Wh e2,k _ F H Stp.refl S (.inr ⟨i,by simp,u,rfl,e3,o⟩)⟩
 ·rename_i d0 hd
  cases e
  obtain ⟨u,e2,e3,o⟩:=S.slot i _ hd
  exact ⟨_,Wh e2,k _ F H Stp.refl S (.inr ⟨i,by simp,u,rfl,e3,o⟩)⟩
 ·cases e
end
section
variable {X:Cx} {x:Str} {p pos:Pos} {e:Expr} {es:List Expr} {R M:List Nat} {f:List Sl → Option (List Ar × List Sl)} {φ:List Sl → Option (D × List Sl)} {n:Nat} {B:List Nat}
theorem Ys (kn:Kn X x n .n φ) (h:CVn X (e :: es) f R M n B) (h1:starEach (e :: es) X.env = (false,eval e X.env) :: starEach es X.env:=by rfl) (h2:(backTo pos (starEach es X.env)).any (·.1) = false:=by rfl):EV X (.Call (.Name x p) (e :: es) [] pos) (Yh R true φ f) [] (M ++ B):=QhF kn h.2 h.1 h1 h2
theorem QfH (kn:Kn X x n .l φ) (h:CVn X (e :: es) f [] M n B) (h1:starEach (e :: es) X.env = (false,eval e X.env) :: starEach es X.env:=by rfl) (h2:(backTo pos (starEach es X.env)).any (·.1) = false:=by rfl):NV X (.Call (.Name x p) (e :: es) [] pos) (Yh [] true φ f) (M ++ B):=Qh7 kn h.2 h.1 h1 h2
theorem Zl {A:Around} {k:Nat} (hr:Room k A):A.units + 67 < cLine:=by have:=hr.un; omega
end
def Qke (N:List Str) (sc scope:Scope) (own:List (Str × Nat)):Bool :=
 decide (scope.kind = .function) && scope.names.all (fun y=>decide (scope.names.lookup y.1 = some y.2)) && own.all (fun p=>decide (N[p.2]? = some p.1)) && scope.names.all (fun y=>decide (y.2 ≠ .free) || decide (sc.names.lookup y.1 = some .cell) || decide (sc.names.lookup y.1 = some .free))
  && scope.names.all (fun y=>decide (y.2 ≠ .local ∧ y.2 ≠ .cell) || (own.map (·.1)).contains y.1 || !(N.contains y.1))
theorem K8 {N:List Str} {sc scope:Scope} {own:List (Str × Nat)} (h:Qke N sc scope own = true):BlkOk N sc scope own:=by
 unfold Qke at h
 simp only [Q5,decide_eq_true_eq,Qe,Jg,Jn,Ji] at h
 obtain ⟨⟨⟨⟨h1,h2⟩,h3⟩,h4⟩,h5⟩:=h
 refine ⟨h1,h2,h3,fun y hy e=>?_,fun y hy e=>?_⟩
 ·rcases h4 y hy with (z | z) | z
  ·exact absurd e z
  ·exact .inl z
  ·exact .inr z
 ·rcases h5 y hy with (z | z) | z
  ·rcases e with e | e
   ·exact absurd e z.1
   ·exact absurd e z.2
  ·exact .inl z
  ·refine .inr fun m=>?_
   rw [Jn.mpr m] at z
   cases z
theorem Qgz (ns:List Int):f2 Yr (f2 Q17 (fA (g1 Q9n) (Xq (fRd 1) Yg)) (Xp (.int 2147483629))) (f2 Vx (Xp (.int 48271)) (fA (g1 Zp) (Xq (fRd 1) Yg))) [.scr ns,.ow (.list ((Wr ns).map Q0))] = some (.int (Q7O ns),[.scr ns,.ow (.list ((Wr ns).map Q0))]):=by
 have e1:Xq (fRd 1) Yg [.scr ns,.ow (.list ((Wr ns).map Q0))] = some ([.list ((Wr ns).map Q0)],[.scr ns,.ow (.list ((Wr ns).map Q0))]):=rfl
 have e2:g1 Q9n [.list ((Wr ns).map Q0)] = some (.int (Wr ns).sum):=by
  simp only [g1,Q9n,Q2F,Qi]
 have e3:g1 Zp [.list ((Wr ns).map Q0)] = some (.int ((Wr ns).length:Nat)):=by
  simp only [g1,Zp,Q4]
 have e4:Q17 (.int (Wr ns).sum) (.int 2147483629) = some (.int ((Wr ns).sum % 2147483629)):=by
  simp [Q17]
 simp only [f2,fA,Xp,e1,e2,e3,e4,Q1,Qi]
 rfl
theorem gcs {K:PySem.W.Frag} {u:Value} {d:D} (h:(kRp K 40 u).map (·.2) = some d):kRp K 40 u = some ((((kRp K 40 u).map (·.1)).getD .non),d):=by
 cases e:kRp K 40 u with
 | none=>rw [e] at h; cases h
 | some p =>
  rw [e] at h
  cases h
  rfl
end Z
namespace Z
open PySem PySem.Spec PyProof.Rows L2
theorem Q7z:∀ cs:List Int,Jv (cs.map Q0) = true
 | []=>rfl
 | c :: r=>by
  show (PyData.plain (.int c) && Jv (r.map Q0)) = true
  rw [Q7z r]
  rfl
theorem QaU:∀ cs:List Int,Jc (cs.map Q0) ≤ 1
 | []=>Jo _
 | c :: r=>by
  have:=QaU r
  simp only [Qq,Jc,X6]
  omega
theorem Qbv (cs:List Int):shp (.list (cs.map Q0)) = true:=by
 have h1:=Q7z cs
 have h2:=QaU cs
 unfold shp
 rw [Q5,decide_eq_true_eq]
 refine ⟨h1,?_⟩
 simp only [X6]
 omega
theorem Q5w (cs:List Int):eqD (.list (cs.map Q0)) (.list []) = some cs.isEmpty:=by
 unfold eqD
 rw [Qbv,show shp (.list []) = true from rfl]
 cases cs <;> rfl
def Q7u:List Sl → Option Out:=Xu (sIf (fun δ=>toB (f2 (bD geD) (Xr 2) (f2 Q33 (Xp (.int 10)) (Xp (.int 18))) δ)) (Xu (Q7I (Q5c 0 (f2 Q2Y (Xr 2) (Xr 1)))) (Xu (Vp (f2 Q17 (Xr 2) (Xr 1))) (Ym))) (Ym)) (Xu (Vs 3 (f2 Q17 (f2 Vx (f2 Yr (f2 Yr (f2 Q17 (Xr 2) (Xp (.int 2147483629))) (f2 Vx (Xp (.int 104729)) (Q7H 0))) (Xp (.int 1))) (Xp (.int 48271))) (Xp (.int 2147483647)))) (Xu (Vs 3 (f2 Q17 (f2 Yr (f2 Yr (f2 Vx (Xr 3) (Xr 3)) (f2 Vx (Xp (.int 69621)) (Q7H 0))) (Xp (.int 7))) (Xp (.int 2147483587)))) (Xu (Vp (f2 Q17 (f2 Q2Y (f2 Q17 (f2 Vx (Xr 3) (f2 Yr (f2 Q2Y (Xr 3) (Xp (.int 3))) (Xp (.int 39373)))) (Xp (.int 2305843009213693951))) (Xp (.int 128))) (Xr 1))) (Ym))))
def Qdj:List Sl → Option Out:=Xu (QdW 0 (f2 Yr (Q7H 0) (Xp (.int 1)))) (Xu (Vs 2 (Q2n (Qe1 0) (Qev 0) (Q7M 0))) Q7u)
theorem Yc (a b:Int):Yr (.int a) (.int b) = some (.int (a + b)):=rfl
theorem Vq (a b:Int) (h:Q0s a = true):Vx (.int a) (.int b) = some (.int (a * b)):=by simp [Vx,QaM,h]
theorem QiT (a b:Int) (h:Q0s b = true):Vx (.int a) (.int b) = some (.int (a * b)):=by simp [Vx,QaM,h]
theorem Q8T (a k:Int) (h:0 < k) (h2:k ≤ 2 ^ 62):Q0s (a % k) = true:=by
 have h3:=Int.emod_nonneg a (Int.ne_of_gt h)
 have h4:=Int.emod_lt_of_pos a h
 unfold Q0s
 simp
 omega
theorem Vz (a b:Int):Q1K (.int a) (.int b) = some (.int (a - b)):=rfl
theorem Q2g (a b:Int) (h:0 < b):Q17 (.int a) (.int b) = some (.int (a % b)):=if_pos h
theorem Q42 (a b:Int) (h:0 < b) (h2:b < 2 ^ 30):Q2Y (.int a) (.int b) = some (.int (a / b)):=by
 show (if (decide (0 < b) && decide (b < 1073741824)) = true then some (Q0 (a / b)) else none) = _
 rw [if_pos (by simp [h]; omega)]
theorem QdT (cs:List Int) (m n c M:Int) (hM:0 < M) (hM2:M < 2 ^ 30) (hc:cs.length < 1000) :
  ∃ (r:Int) (cs':List Int) (z:Sl),0 ≤ r ∧ r < M ∧ cs'.length ≤ cs.length + 1 ∧ Q7u [.dk cs m n,.fz (.int M),.fz (.int c),.no] = some (.rt (.int r) [.dk cs' m n,.fz (.int M),.fz (.int c),z]):=by
 have hs:cs.length < sizeLine:=Qs hc (by decide)
 by_cases h:(10:Int) ^ 18 ≤ c
 ·refine ⟨c % M,cs ++ [c / M],.no,Int.emod_nonneg _ (by omega),Int.emod_lt_of_pos _ hM,by simp,?_⟩
  have e1:geD (.int c) (.int (10 ^ 18)) = some true:=by
   simp [geD]
   omega
  have e2:Q33 (.int 10) (.int 18) = some (.int (10 ^ 18)):=rfl
  simp only [Q7u,Xu,sIf,Q7I,Vp,toB,f2,Xr,Xp,Q5c,Q1J,bD,e1,e2,Q42 _ _ hM hM2,Q2g _ _ hM,hs,List.getElem?_cons_zero,List.getElem?_cons_succ,Q1,Qi,if_true,List.set_cons_zero]
 ·refine ⟨(((((c % 2147483629 + 104729 * n + 1) * 48271) % 2147483647) * (((c % 2147483629 + 104729 * n + 1) * 48271) % 2147483647) + 69621 * n + 7) % 2147483587 * ((((((c % 2147483629 + 104729 * n + 1) * 48271) % 2147483647) * (((c % 2147483629 + 104729 * n + 1) * 48271) % 2147483647) + 69621 * n + 7) % 2147483587) / 3 + 39373) % 2305843009213693951 / 128) % M,cs,.fz (.int (((((c % 2147483629 + 104729 * n + 1) * 48271) % 2147483647) * (((c % 2147483629 + 104729 * n + 1) * 48271) % 2147483647) + 69621 * n + 7) % 2147483587)),Int.emod_nonneg _ (Int.ne_of_gt hM),Int.emod_lt_of_pos _ hM,by omega,?_⟩
  have e1:geD (.int c) (.int (10 ^ 18)) = some false:=by simp [geD]; omega
  have e2:Q33 (.int 10) (.int 18) = some (.int (10 ^ 18)):=rfl
  have m1:∀ a:Int,Q17 (.int a) (.int 2147483629) = some (.int (a % 2147483629)):=fun a=>Q2g a _ (by decide)
  have m2:∀ a:Int,Q17 (.int a) (.int 2147483647) = some (.int (a % 2147483647)):=fun a=>Q2g a _ (by decide)
  have m3:∀ a:Int,Q17 (.int a) (.int 2147483587) = some (.int (a % 2147483587)):=fun a=>Q2g a _ (by decide)
  have m4:∀ a:Int,Q17 (.int a) (.int 2305843009213693951) = some (.int (a % 2305843009213693951)):=fun a=>Q2g a _ (by decide)
  have d1:∀ a:Int,Q2Y (.int a) (.int 3) = some (.int (a / 3)):=fun a=>Q42 a _ (by decide) (by decide)
  have d2:∀ a:Int,Q2Y (.int a) (.int 128) = some (.int (a / 128)):=fun a=>Q42 a _ (by decide) (by decide)
  have l1:∀ a:Int,Vx (.int 104729) (.int a) = some (.int (104729 * a)):=fun a=>Vq _ _ rfl
  have l2:∀ a:Int,Vx (.int 69621) (.int a) = some (.int (69621 * a)):=fun a=>Vq _ _ rfl
  have l3:∀ a:Int,Vx (.int a) (.int 48271) = some (.int (a * 48271)):=fun a=>QiT _ _ rfl
  have l4:∀ a b:Int,Vx (.int (a % 2147483647)) (.int b) = some (.int ((a % 2147483647) * b)):=fun a b=>Vq _ _ (Q8T _ _ (by decide) (by decide))
  have l5:∀ a b:Int,Vx (.int (a % 2147483587)) (.int b) = some (.int ((a % 2147483587) * b)):=fun a b=>Vq _ _ (Q8T _ _ (by decide) (by decide))
  have mM:∀ a:Int,Q17 (.int a) (.int M) = some (.int (a % M)):=fun a=>Q2g a _ hM
  simp only [Q7u,Xu,sIf,Vs,Q7I,Vp,Ym,toB,f2,Xr,Xp,Q7H,Q1J,bD,e1,e2,m1,m2,m3,m4,d1,d2,mM,Yc,l1,l2,l3,l4,l5,hs,List.getElem?_cons_zero,List.getElem?_cons_succ,Q1,Qi,Qh,Qw,List.set_cons_zero,List.set_cons_succ,Nat.reduceAdd,Nat.reduceLT,if_true]
theorem QjF {sg:List Bool} {m:Nat} {fr:Fr} {g:List Sl → Option Out} {as δ o:List Sl} {d:D} (h1:Q4M sg as = true) (h2:g (as ++ Qn (m - sg.length) .no) = some (.rt d δ)) (h3:Ke as δ = some o):fnF sg m fr g as = some (d,o):=by
 unfold fnF
 rw [h1,h2]
 show (Ke as δ).map (fun o=>(d,o)) = _
 rw [h3]
 rfl
def Q85:List Sl → Option (D × List Sl):=fnF [true,false] 4 .n Qdj
theorem QhA (cs:List Int) (m n M:Int) (hM:0 < M) (hM2:M < 2 ^ 30) (hc:cs.length ≤ 63):∃ (r:Int) (cs':List Int) (n':Int),0 ≤ r ∧ r < M ∧ cs'.length ≤ 63 ∧ Q85 [.dk cs m n,.fz (.int M)] = some (.int r,[.dk cs' m n',.fz (.int M)]):=by
 have fin:∀ (cs0:List Int) (c:Int),cs0.length ≤ 62 → Qdj [.dk cs m n,.fz (.int M),.no,.no] = Q7u [.dk cs0 m (n + 1),.fz (.int M),.fz (.int c),.no] →
   ∃ (r:Int) (cs':List Int) (n':Int),0 ≤ r ∧ r < M ∧ cs'.length ≤ 63 ∧ Q85 [.dk cs m n,.fz (.int M)] = some (.int r,[.dk cs' m n',.fz (.int M)]):=fun cs0 c hl e=>by
  obtain ⟨r,cs',z,h1,h2,h3,h4⟩:=QdT cs0 m (n + 1) c M hM hM2 (by omega)
  refine ⟨r,cs',n + 1,h1,h2,by omega,?_⟩
  exact QjF rfl (e.trans h4) rfl
 have en:∀ a b:Int,Yr (.int a) (.int b) = some (.int (a + b)):=fun _ _=>rfl
 cases cs with
 | nil =>
  refine fin [] m (by simp) ?_
  simp only [Qdj,Xu,QdW,Vs,Q2n,Qe1,Qev,Q7H,f2,Xp,Q1J,en,Q5w,List.isEmpty_nil,List.getElem?_cons_zero,Q1,Qi,Qh,Qw,List.set_cons_zero,List.set_cons_succ,Nat.reduceAdd,Nat.reduceLT,if_true]
 | cons x r =>
  have he:(x :: r).isEmpty = false:=rfl
  generalize (x :: r) = cs at he hc fin ⊢
  have h0:0 < cs.length:=by
   cases cs with
   | nil=>cases he
   | cons _ _=>simp
  obtain ⟨c,hl⟩:∃ c,cs[cs.length - 1]? = some c:=⟨_,Qa (by omega)⟩
  refine fin cs.dropLast c (by rw [List.length_dropLast]; omega) ?_
  simp only [Qdj,Xu,QdW,Vs,Q2n,Qe1,Q7M,Q7H,f2,Xp,Q1J,en,Q5w,hl,he,List.getElem?_cons_zero,Q1,Qi,List.set_cons_zero,List.set_cons_succ,Qh,Qw,Nat.reduceAdd,Nat.reduceLT,if_true]
theorem QfM:1000000 ≤ sizeLine:=by decide
theorem Qc3 {i:Int} (h0:-1000000 ≤ i) (h1:i ≤ 1000000):Zx i = true:=by
 unfold Zx
 simp
 omega
end Z
namespace Z
open PySem PySem.Spec PyProof.Rows L2
def rgB (i j:Int):Bool:=decide (0 ≤ i) && decide (i ≤ 16777216) && decide (0 ≤ j) && decide (j ≤ 16777216)
def rgD:D → D → Option D
 | .int i,.int j=>if rgB i j then some (.list (Q47 i (j - i).toNat)) else none
 | _,_=>none
theorem QeD {d e z:D} (h:rgD d e = some z):∃ i j,d = .int i ∧ e = .int j ∧ RgOk i j ∧ z = .list (Q47 i (j - i).toNat):=by
 unfold rgD at h
 split at h
 ·rename_i i j
  split at h
  ·rename_i c
   cases h
   unfold rgB at c
   simp only [Q5,decide_eq_true_eq] at c
   exact ⟨i,j,rfl,rfl,RgOk.of_le c.1.1.1 c.2 c.1.1.2 c.1.2,rfl⟩
  ·cases h
 ·cases h
theorem QjV {K:PySem.W.Frag} {G:Hp} (i j:Int):Rps K G (rgV i j) (Q47 i (j - i).toNat):=by
 unfold rgV Q47
 induction Jj (j - i).toNat with
 | nil=>exact .nil
 | cons a r ih=>exact .cons (.int _) ih
section
variable {X:Cx} {a b:Expr} {fa fb:List Sl → Option (D × List Sl)} {Ra Rb Ma Mb:List Nat} {p p2 pos pos2:Pos}
theorem Qd0 (hc:X.calm = true) (hm:X.mg "list" = none) (hm2:X.mg "range" = none) (ha:EV X a fa Ra Ma) (hb:EV X b fb Rb Mb) (hg:Gl X "list":=by rfl) (hg2:Gl X "range":=by rfl) (dj:∀ i ∈ Ra,i ∉ Mb:=by decide)
  (na:starEach [a,b] X.env = (false,eval a X.env) :: starEach [b] X.env:=by rfl) (nb:starEach [b] X.env = (false,eval b X.env) :: starEach [] X.env:=by rfl) (hp:(backTo pos2 (starEach [b] X.env)).any (·.1) = false:=by rfl)
  (nc:starEach [.Call (.Name "range" p2) [a,b] [] pos2] X.env = (false,eval (.Call (.Name "range" p2) [a,b] [] pos2) X.env) :: starEach [] X.env:=by rfl) :
  NV X (.Call (.Name "list" p) [.Call (.Name "range" p2) [a,b] [] pos2] [] pos) (f2 rgD fa fb) (Ma ++ Mb):=by
 obtain ⟨ta,tb,pa,pb,q⟩:=two (g:=rgD) ha hb dj
 refine ⟨_,pe_listRg hc hg hm (prg_2 hg2 hm2 pa pb na nb hp) nc,fun Y F H δ σ A S z δ' e Q k=>?_⟩
 refine q Y F H δ σ A S z δ' e _ fun x y d e F1 H1 st S1 r1 r2 hg=>?_
 obtain ⟨i,j,rfl,rfl,ok,rfl⟩:=QeD hg
 refine ⟨i,j,r1.int,r2.int,ok,fun c hc=>?_⟩
 exact k c F1 _ (Vj S1 st (Stp.laidO hc)) (S1.laidO hc) (Q6F st S1 hc) (S1.sub.free hc) ⟨_,upd_same,QjV i j⟩
def QjU:List Sl → Option (D × List Sl):=fun δ=>some (.dict [],δ)
theorem Qhg:NV X (.Dict [] [] pos) QjU []:=by
 refine ⟨_,pe_dnewK,fun Y F H δ σ A S z δ' e Q k=>?_⟩
 cases e
 exact fun c hc=>k c F _ (Stp.laidO hc) (S.laidO hc) hc (S.sub.free hc) ⟨_,upd_same,.nil⟩
end
end Z
namespace Z
open PySem PySem.Spec PyProof.Rows L2
def PrR (K:PySem.W.Frag) (F:Hp):List (V × V) → List (D × D) → Prop
 | [],[]=>True
 | (x,y) :: r,(d,e) :: s=>Rp K F x d ∧ Rp K F y e ∧ PrR K F r s
 | _,_=>False
theorem PrR.mono {K:PySem.W.Frag} {F F':Hp} (e:Same F F'):∀ {ps:List (V × V)} {ds:List (D × D)},PrR K F ps ds → PrR K F' ps ds
 | [],[],_=>trivial
 | (x,y) :: r,(d,e') :: s,⟨h1,h2,h3⟩=>⟨h1.mono e,h2.mono e,PrR.mono e h3⟩
 | [],_ :: _,h=>h.elim
 | _ :: _,[],h=>h.elim
def PV (X:Cx) (pos:Pos) (ks:List (Option Expr)) (vs:List Expr) (f:List Sl → Option (List (D × D) × List Sl)) (M:List Nat):Prop :=
 ∃ trs,PPs X pos ks vs trs ∧ ∀ (Y:Fx) (F H:Hp) (δ:List Sl) (σ:L2.St) (A:Nat → List Addr),SR X.K Y F H δ σ A → ∀ (ds:List (D × D)) (δ':List Sl),f δ = some (ds,δ') → ∀ Q:List (V × V) → Hp → Prop,
  (∀ ps F' H',Stp A M F H F' H' → SR X.K Y F' H' δ' σ A → PrR X.K F' ps ds → Q ps H') → tPairs trs σ H Q
def Qf8:List Sl → Option (List (D × D) × List Sl):=fun δ=>some ([],δ)
def Q6k (fk fv:List Sl → Option (D × List Sl)) (fr:List Sl → Option (List (D × D) × List Sl)):List Sl → Option (List (D × D) × List Sl):=fun δ=>(fk δ).bind fun p=>(fv p.2).bind fun q=>(fr q.2).map fun r=>((p.1,q.1) :: r.1,r.2)
section
variable {X:Cx} {pos:Pos} {ks:List (Option Expr)} {vs:List Expr} {k v:Expr} {fk fv:List Sl → Option (D × List Sl)} {fr:List Sl → Option (List (D × D) × List Sl)} {Mk Mv Mr:List Nat}
theorem QbA:PV X pos [] [] Qf8 []:=by
 refine ⟨_,pps_nil,fun Y F H δ σ A S ds δ' e Q k=>?_⟩
 cases e
 exact k [] F H Stp.refl S trivial
theorem Q6K (hk:EV X k fk [] Mk) (hv:EV X v fv [] Mv) (hr:PV X pos ks vs fr Mr):PV X pos (some k :: ks) (v :: vs) (Q6k fk fv fr) (Mk ++ Mv ++ Mr):=by
 obtain ⟨tk,pk,qk⟩:=hk
 obtain ⟨tv,pv,qv⟩:=hv
 obtain ⟨tr,pr,qr⟩:=hr
 refine ⟨_,pps_cons pk pv pr,fun Y F H δ σ A S ds δ' e Q kk=>?_⟩
 unfold Q6k at e
 cases e1:fk δ with
 | none=>rw [e1] at e; cases e
 | some w =>
  obtain ⟨d,δ1⟩:=w
  rw [e1] at e
  simp only [Q1] at e
  cases e2:fv δ1 with
  | none=>rw [e2] at e; cases e
  | some w =>
   obtain ⟨d2,δ2⟩:=w
   rw [e2] at e
   simp only [Q1] at e
   cases e3:fr δ2 with
   | none=>rw [e3] at e; cases e
   | some w =>
    obtain ⟨r,δ3⟩:=w
    rw [e3] at e
    cases e
    refine qk Y F H δ σ A S d δ1 e1 _ fun x F1 H1 st1 S1 r1=>?_
    refine qv Y F1 H1 δ1 σ A S1 d2 δ2 e2 _ fun y F2 H2 st2 S2 r2=>?_
    refine qr Y F2 H2 δ2 σ A S2 r δ3 e3 _ fun ps F3 H3 st3 S3 r3=>?_
    exact kk _ F3 H3 ((st1.trans S1 st2).trans S2 st3) S3 ⟨r1.nil.mono (st2.f.trans st3.f),r2.nil.mono st3.f,r3⟩
def Q4x:List (D × D) → Option (List Key)
 | []=>some []
 | p :: r=>(Kk p.1).bind fun k=>(Q4x r).bind fun ks=>if ks.any (fun j=>decide (j = k)) then none else some (k :: ks)
theorem PrR.keys {K:PySem.W.Frag} {F:Hp}:∀ {ps:List (V × V)} {ds:List (D × D)} {ks:List Key},PrR K F ps ds → Q4x ds = some ks → ∃ kvs:List (Key × V),ps = kvs.map (fun kv=>(kV kv.1,kv.2)) ∧ kvs.map (·.1) = ks ∧ ks.Nodup ∧ RpK K F kvs ds
 | [],[],ks,_,h=>by cases h; exact ⟨[],rfl,rfl,List.nodup_nil,.nil⟩
 | (x,y) :: r,(d,e) :: s,ks,⟨h1,h2,h3⟩,h=>by
  unfold Q4x at h
  cases e1:Kk d with
  | none=>rw [e1] at h; cases h
  | some k =>
   rw [e1] at h
   simp only [Q1] at h
   cases e2:Q4x s with
   | none=>rw [e2] at h; cases h
   | some ks' =>
    rw [e2] at h
    simp only [Q1] at h
    split at h
    ·cases h
    ·rename_i nk
     cases h
     obtain ⟨kvs,q1,q2,q3,q4⟩:=PrR.keys h3 e2
     have ex:=Q6a e1 h1
     have ed:d = Q7m k:=by
      cases d with
      | int i=>cases e1; rfl
      | str z=>cases e1; rfl
      | _=>cases e1
     subst ed
     refine ⟨(k,y) :: kvs,by rw [Qq,q1,ex],by rw [Qq,q2],X8.mpr ⟨fun z=>nk (Xe.mpr ⟨_,z,decide_eq_true rfl⟩),q3⟩,.cons h2 q4⟩
 | [],_ :: _,_,h,_=>h.elim
 | _ :: _,[],_,h,_=>h.elim
theorem Q8A:∀ (more kvs:List (Key × V)),((kvs ++ more).map (·.1)).Nodup → mergeK kvs more = kvs ++ more
 | [],kvs,_=>by rw [J4]; rfl
 | p :: r,kvs,h=>by
  have hp:valV kvs p.1 = none:=by
   cases c:valV kvs p.1 with
   | none=>rfl
   | some v =>
    have m:=valV_in c
    rw [Jw,Qq,X4] at h
    exact absurd rfl (h.2.2 _ m _ Q7)
  show mergeK (putK kvs p.1 p.2) r = _
  rw [putK_new _ hp,Q8A r _ (by simpa using h),List.append_assoc]
  rfl
def Q6Y (f:List Sl → Option (List (D × D) × List Sl)):List Sl → Option (D × List Sl):=fun δ=>(f δ).bind fun p=>(Q4x p.1).bind fun ks=>if ks.length ≤ 15 then some (.dict p.1,p.2) else none
theorem Q9W {f:List Sl → Option (List (D × D) × List Sl)} {M:List Nat} (h:PV X pos ks vs f M) (hall:ks.all (·.isSome) = true:=by rfl) (hl:ks.length = vs.length:=by rfl) (h0:ks ≠ []:=by intro z; cases z) (h15:ks.length ≤ 15:=by decide):NV X (.Dict ks vs pos) (Q6Y f) M:=by
 obtain ⟨trs,pp,q⟩:=h
 refine ⟨_,pe_disp pp hall hl h0 h15,fun Y F H δ σ A S z δ' e Q k=>?_⟩
 unfold Q6Y at e
 cases e1:f δ with
 | none=>rw [e1] at e; cases e
 | some w =>
  obtain ⟨ds,δ1⟩:=w
  rw [e1] at e
  simp only [Q1] at e
  cases e2:Q4x ds with
  | none=>rw [e2] at e; cases e
  | some kl =>
   rw [e2] at e
   simp only [Q1] at e
   split at e
   ·rename_i hz
    cases e
    intro p hp
    have S0:=S.laidO (o:=.dK []) hp
    refine q Y F _ δ σ A S0 ds _ e1 _ fun ps F2 H2 st S2 r=>?_
    have nA:∀ j,p ∉ A j:=fun j m=>S.isSome m hp
    have h2:H2 p = some (.dK []):=st.kp p _ upd_same fun i _ m=>nA i m
    have hF:F p = none:=S.sub.free hp
    have hF2:F2 p = none:=by
     cases c:F2 p with
     | none=>rfl
     | some o =>
      have:=st.nw p hF (by rw [c]; simp)
      rw [upd_same] at this
      cases this
    obtain ⟨kvs,q1,q2,q3,q4⟩:=r.keys e2
    have hk:kvs.length ≤ 15:=by
     have:=congrArg List.length q2
     rw [Q4] at this
     omega
    have em:mergeK [] kvs = kvs:=Q8A kvs [] (by rw [List.nil_append,q2]; exact q3)
    refine ⟨h2,kvs,q1,hk,?_⟩
    rw [em]
    refine k p F2 _ ⟨st.f,fun a e n=>?_,fun a o e n=>?_⟩ (S2.upd_free hF2 nA (S.fresh0 hp)) hp hF2 ⟨kvs,upd_same,q4⟩
    ·have:=st.nw a e n
     by_cases c:a = p
     ·subst c; exact hp
     ·rw [upd_ne c] at this; exact this
    ·have c:a ≠ p:=fun z=>by subst z; rw [hp] at e; cases e
     rw [upd_ne c]
     exact st.kp a o (by rw [upd_ne c]; exact e) n
   ·cases e
end
end Z
namespace Z
open PySem PySem.Spec PyProof.Rows L2
def Qky:D → Option D
 | .list ds=>some (.list ds.reverse)
 | _=>none
theorem Rps.reverse {K:PySem.W.Frag} {G:Hp}:∀ {xs:List V} {ds:List D},Rps K G xs ds → Rps K G xs.reverse ds.reverse
 | _,_,.nil=>.nil
 | x :: xs,d :: ds,.cons h r=>by
  rw [List.reverse_cons,List.reverse_cons]
  exact r.reverse.append (.cons h .nil)
theorem QhL {X:Cx} {e:Expr} {fe:List Sl → Option (D × List Sl)} {R M:List Nat} {k:Nat} {p1 p2 p3 pos:Pos} (he:EV X e fe R M):NV X (.Subscript e (.Slice none none (some (.UnaryOp .USub (.Constant (.int 1) k p1) p2)) p3) pos) (f1 Qky fe) M:=by
 obtain ⟨t,p,q⟩:=he
 refine ⟨_,pe_revL p,fun Y F H δ σ A S z δ' e Q kk=>?_⟩
 obtain ⟨d,e1,e2⟩:=Q5B e
 refine q Y F H δ σ A S d δ' e1 _ fun v F1 H1 st S1 r1=>?_
 unfold Qky at e2
 split at e2
 ·cases e2
  obtain ⟨a,xs,rfl,h1,h2⟩:=r1.list S1
  refine ⟨a,xs,rfl,SqL.of h1,fun c hc=>?_⟩
  exact kk c F1 _ (Vj S1 st (Stp.laidO hc)) (S1.laidO hc) (Q6F st S1 hc) (S1.sub.free hc) ⟨_,upd_same,h2.reverse⟩
 ·cases e2
end Z
namespace Z
open PySem PySem.Spec PyProof.Rows L2
section
variable {K:PySem.W.Frag} {Y:Fx} {F F' H H':Hp} {δ δ':List Sl} {σ:L2.St} {A:Nat → List Addr} {i:Nat} {R M:List Nat}
theorem Qj3 (S:SR K Y F H δ σ A) {p:Addr} {od:Obj} {u:HO} (hp:p ∈ A i) (hu:H p = some u) (st:Stp A M F (upd H p (.frz od u)) F' H'):Stp A M F H F' (upd H' p u):=by
 refine ⟨st.f,fun a e n=>?_,fun a o e n=>?_⟩
 ·have q:=st.nw a e n
  by_cases c:a = p
  ·subst c; rw [upd_same] at q; cases q
  ·rwa [upd_ne c] at q
 ·by_cases c:a = p
  ·subst c; rw [upd_same]; rw [hu] at e; exact e
  ·rw [upd_ne c]
   exact st.kp a o (by rw [upd_ne c]; exact e) n
theorem Qj0 (S:SR K Y F H δ σ A) {p:Addr} {od:Obj} {u:HO} (hp:p ∈ A i) (hi:i ∉ M) (st:Stp A M F (upd H p (.frz od u)) F' H'):H' p = some (.frz od u) :=
 st.kp p _ upd_same fun j hj z=>by
  have:=S.dis j i p z hp
  subst this
  exact hi hj
theorem Vw.unl (S:SR K Y F' H' δ' σ A) {v:V} {d:D} {p:Addr} {u:HO} (hp:p ∈ A i) (hR:i ∉ R) (h:Vw K F' H' A R v d):Vw K F' (upd H' p u) A R v d:=by
 rcases h with h | ⟨j,hj,q,e,eA,o⟩
 ·exact .inl h
 ·refine .inr ⟨j,hj,q,e,eA,o.mono (Same.refl _) (upd_ne fun z=>?_)⟩
  subst z
  have:=S.dis j i q (by rw [eA]; simp) hp
  subst this
  exact hR hj
end
def fLk (i:Nat) (f:List Sl → Option (D × List Sl)):List Sl → Option (D × List Sl):=fun δ=>match δ[i]? with
 | some (.ow (.dict ds))=>(f (δ.set i (.lk ds))).bind fun p=>match p.2[i]? with
  | some (.lk es)=>some (p.1,p.2.set i (.ow (.dict es)))
  | _=>none
 | _=>f δ
section
variable {X:Cx} {e:Expr} {f:List Sl → Option (D × List Sl)} {R M:List Nat}
theorem Qda (i:Nat) (h:EV X e f R M) (hR:i ∉ R:=by decide) (hM:i ∉ M:=by decide):EV X e (fLk i f) R M:=by
 obtain ⟨t,p,q⟩:=h
 refine ⟨_,QbJ p (pe_lock p),fun Y F H δ σ A S d δ' e Q k=>?_⟩
 unfold fLk at e
 split at e
 ·rename_i ds hd
  obtain ⟨pa,u,hA,hu,mu,w⟩:=S.lock hd
  have hp:pa ∈ A i:=by rw [hA]; simp
  refine .inr ⟨pa,u,hu,mu,fun od=>?_⟩
  cases e1:f (δ.set i (.lk ds)) with
  | none=>rw [e1] at e; cases e
  | some w1 =>
   obtain ⟨d1,δ1⟩:=w1
   rw [e1] at e
   simp only [Q1] at e
   split at e
   ·rename_i es he
    cases e
    refine q Y F _ _ σ A (w od) _ _ e1 _ fun v F1 H1 st S1 r=>?_
    have hz:=Qj0 S hp hM st
    exact ⟨hz,k v F1 _ (Qj3 S hp hu st) (S1.unlock he hA hz) (Vw.unl S1 hp hR r)⟩
   ·cases e
 ·exact .inl (q Y F H δ σ A S d δ' e Q k)
end
end Z
namespace Z
open PySem PySem.Spec PyProof.Rows L2
def leI (a b:Int):Bool:=decide (a ≤ b)
def Q9e:D → Option D
 | .dict ds=>(Zo (ds.map (·.1))).bind fun ks=>if ks.length < 64 then some (.list ((ks.mergeSort leI).map Q0)) else none
 | _=>none
abbrev QcL:List V → Hp → VK → Prop:=fun xs H Q=>∃ (a:Addr) (kvs:List (Key × V)) (ks:List Int),xs = [.ref a] ∧ Rd H a (.dK kvs) ∧ kvs.map (·.1) = ks.map Jx ∧ ks.length < 64 ∧ ∀ (ys:List Int) (p:Addr),ys.Perm ks → ys.Pairwise (· ≤ ·) → H p = none → Q (.ref p) (upd H p (.lst (ys.map V.int)))
theorem QdO {X:Cx} (hc:X.calm = true):CallR X (.builtin "sorted") QcL:=call_sortedDI hc
theorem Q8P {K:PySem.W.Frag} {G:Hp}:∀ {kvs:List (Key × V)} {ds:List (D × D)} {ks:List Int},RpK K G kvs ds → Zo (ds.map (fun p:D × D=>p.1)) = some ks → kvs.map (·.1) = ks.map Jx
 | _,_,_,.nil,h=>by cases h; rfl
 | _,_,ks,.cons (k:=k) (r:=r) h r',e=>by
  cases k with
  | inl i =>
   simp only [Qq,Q7m,Zo] at e
   rename_i d ds'
   cases e1:Zo (List.map (fun p:D × D=>p.1) ds') with
   | none=>rw [e1] at e; cases e
   | some js =>
    rw [e1] at e
    cases e
    rw [Qq,Qq,Q8P r' e1]
  | inr x=>cases e
theorem Q8j {ys ks:List Int} (p:ys.Perm ks) (h:ys.Pairwise (· ≤ ·)):ys = ks.mergeSort leI:=by
 have h2:(ks.mergeSort leI).Pairwise (fun a b=>leI a b = true):=List.pairwise_mergeSort (fun a b c h1 h2=>by simp [leI] at *; omega) (fun a b=>by simp [leI]; omega) ks
 have h3:(ks.mergeSort leI).Pairwise (· ≤ ·):=h2.imp fun h=>by simpa [leI] using h
 exact List.Perm.eq_of_pairwise (le:=(· ≤ ·)) (fun a b _ _ h1 h2=>Int.le_antisymm h1 h2) h h3 (p.trans (List.mergeSort_perm ks leI).symm)
theorem Qfi {X:Cx}:Qal X QcL (g1 Q9e):=by
 intro Y F H δ σ A R xs ds z S r hg Q k
 obtain ⟨d,rfl,hg'⟩:=Q0g hg
 obtain ⟨v,rfl,rv⟩:=r.one
 clear hg
 unfold Q9e at hg'
 split at hg'
 ·rename_i ds'
  cases e1:Zo (ds'.map (·.1)) with
  | none=>rw [e1] at hg'; cases hg'
  | some ks =>
   rw [e1] at hg'
   simp only [Q1] at hg'
   split at hg'
   ·rename_i hl
    cases hg'
    obtain ⟨a,o,kvs,rfl,h1,h2⟩:=rv.dict S
    refine ⟨a,kvs,ks,rfl,.inr ⟨o,h1⟩,Q8P h2 e1,hl,fun ys p hp hs hn=>?_⟩
    have e:=Q8j hp hs
    subst e
    exact k p F _ (Stp.laidO hn) (S.laidO hn) hn (S.sub.free hn) ⟨_,upd_same,Q58 _⟩
   ·cases hg'
 ·cases hg'
end Z
namespace Z
open PySem PySem.Spec PyProof.Rows L2
def loN:Option Int → Option Nat
 | none=>some 0
 | some (.ofNat n)=>some n
 | _=>none


end Z
namespace Z
open PySem PySem.Spec PyProof.Rows L2
abbrev Q2a (h:Heap) (z TI TO:Addr) (T:Addr) (f:Bool):Prop :=
 h.get? z = some { cls:=.type "zip",dict:=none,data:=.fields #[rawInt T,.bool f,.bool false,.ref TI,.ref TO],slots:=#[] }
section
variable {prog:Program} {w:World} {A:Around} {E:Value → Shared → Prop} {s:Shared} {z TI TO i1 i2 T:Addr} {f:Bool} {fp1 fp2:List Addr} {n1 n2 i:Nat} {P1 P2:Nat → Value → Prop} {St1 St2:Nat → Heap → Prop} {a1 a2:Value}
theorem Qfu {a:Addr} {o:Obj} {Q:Option Obj → Shared → Prop} (ho:s.heap.get? a = some o) (h:Q (some o) s):wpAny (model prog w) A (loadIfAlive a) Q E s:=by
 intro Γ p hΓ
 show Sem.wp _ _ (.loadIfAlive a .pure) _ _ _ _
 rw [Sem.wp_loadIfAlive,ho]
 exact h
theorem Q8U (hz:Q2a s.heap z TI TO T f) (hT:∃ o,s.heap.get? T = some o) {Q:Bool → Shared → Prop}
  (hQ:∀ h',Q2a h' z TI TO T true → Heap.SameBut z s.heap h' → Q false { s with heap:=h' }):wpAny (model prog w) A (Builtin.SmallTypes.ownedTupleIsFree (.ref z)) Q E s:=by
 obtain ⟨oT,eT⟩:=hT
 unfold Builtin.SmallTypes.ownedTupleIsFree
 refine wpAny_bind (wpAny_field hz rfl (x:=rawInt T) rfl ?_)
 show wpAny _ _ (loadIfAlive ((T:Int)).toNat >>= _) _ _ s
 rw [Int.toNat_natCast]
 refine wpAny_bind (Qfu eT ?_)
 simp only [Option.isNone_some,Qx,if_false]
 refine wpAny_bind (wpAny_field hz rfl (x:=.bool f) rfl ?_)
 cases f with
 | true =>
  rw [if_neg (by decide)]
  exact wpAny_pure (hQ s.heap hz ⟨rfl,fun _ _=>rfl⟩)
 | false =>
  rw [if_pos (by decide)]
  refine wpAny_bind (wpAny_setField_rec hz (by simp) fun h' hz' hs'=>?_)
  exact wpAny_pure (hQ h' hz' hs')
theorem QdN {Q:Value → Shared → Prop} (S:ZipSep2 z TI TO i1 i2 fp1 fp2) (D1:Draws prog w A i1 fp1 n1 P1 St1) (D2:Draws prog w A i2 fp2 n2 P2 St2)
  (hz:Q2a s.heap z TI TO T f) (hT:∃ o,s.heap.get? T = some o) (hTI:IsTupOf2 s.heap TI (.ref i1) (.ref i2)) (st1:St1 i s.heap) (st2:St2 i s.heap) (hlt1:i < n1) (hlt2:i < n2)
  (hQ:∀ x1 x2 h' tk,P1 i x1 → P2 i x2 → Q2a h' z TI TO T true → St1 (i + 1) h' → St2 (i + 1) h' → IsTupOf2 h' s.heap.objs.size x1 x2 → h'.objs.size = s.heap.objs.size + 1 →
   (∀ c o,c ≠ z → c ≠ TO → c ≠ i1 → c ≠ i2 → s.heap.get? c = some o → h'.get? c = some o) → Q (.ref s.heap.objs.size) { s with heap:=h',toks:=tk }) :
  wpAny (model prog w) A (Builtin.«zip.__next__» ⟨[.ref z],[]⟩) (fun fin s'=>∃ v,fin = .done (.ret v) ∧ Q v s') E s:=by
 obtain ⟨hp,g,d,tk0,os⟩:=s
 show wpAny _ _ (field (.ref z) 2 >>= _) _ _ _
 refine wpAny_bind (wpAny_field hz rfl (x:=.bool false) rfl ?_)
 show wpAny _ _ (field (.ref z) 3 >>= _) _ _ _
 refine wpAny_bind (wpAny_field hz rfl (x:=.ref TI) rfl ?_)
 refine wpAny_bind (wpAny_seqItems hTI rfl ?_)
 show wpAny _ _ (Builtin.SmallTypes.ownedTupleIsFree (.ref z) >>= _) _ _ _
 refine wpAny_bind (Q8U hz hT fun g0 hz0 hs0=>?_)
 replace hs0:Heap.SameBut z hp g0:=hs0
 simp only [Qx,if_false]
 refine wpAny_bind ?_
 rw [← Array.forIn_toList]
 simp only [List.forIn_cons,List.forIn_nil]
 refine wpAny_bind (wpAny_bind (wpAny_holding ?_))
 show wpAny _ _ (Builtin.SmallTypes.nextOf (.ref i1) >>= _) _ _ ⟨g0,g,d,tk0,os⟩
 refine wpAny_bind (D1.item i _ _ _ hlt1 (D1.over st1 hs0 S.zf1) fun x1 p1 tk1 hx1 sn1 hp1=>wpAny_pure (wpAny_pure ?_))
 replace hp1:Heap.SameBut i1 g0 p1:=hp1
 refine wpAny_bind (wpAny_bind (wpAny_holding ?_))
 show wpAny _ _ (Builtin.SmallTypes.nextOf (.ref i2) >>= _) _ _ ⟨p1,g,d,tk1,os⟩
 refine wpAny_bind (D2.item i _ _ _ hlt2 (D2.over (D2.over st2 hs0 S.zf2) hp1 S.sep1_2) fun x2 p2 tk2 hx2 sn2 hp2=>wpAny_pure (wpAny_pure (wpAny_pure ?_)))
 replace hp2:Heap.SameBut i2 p1 p2:=hp2
 refine wpAny_bind (wpAny_newTuple ?_ (by show 2 ≤ sizeLine; decide))
 have hsz:p2.objs.size = hp.objs.size:=by rw [hp2.1,hp1.1,hs0.1]
 have hzz:Q2a p2 z TI TO T true:=hp2.extBut _ _ S.zi2 (hp1.extBut _ _ S.zi1 hz0)
 have hj1:St1 (i + 1) p2:=D1.over sn1 hp2 S.sep2_1
 have up:∀ c o,p2.get? c = some o → (p2.push { cls:=.type "tuple",data:=.seq #[x1,x2] }).get? c = some o:=fun c o e=>Heap.get?_push_of_some _ e
 refine wpAny_pure ⟨_,rfl,?_⟩
 show Q (.ref p2.objs.size) ⟨p2.push { cls:=.type "tuple",data:=.seq #[x1,x2] },g,d,tk2,os⟩
 have hT8:IsTupOf2 (p2.push { cls:=.type "tuple",data:=.seq #[x1,x2] }) p2.objs.size x1 x2:=Heap.get?_push_size _ rfl
 rw [hsz] at hT8 ⊢
 exact hQ x1 x2 _ tk2 hx1 hx2 (up _ _ hzz) (D1.frame _ _ _ hj1 fun b _ o e=>up b o e) (D2.frame _ _ _ sn2 fun b _ o e=>up b o e) hT8 (by rw [Heap.size_push,hsz]) fun c o cz cT c1 c2 e =>
  up c o (hp2.extBut _ _ c2 (hp1.extBut _ _ c1 (hs0.extBut _ _ cz e)))
theorem QfS {Q:Fin → Shared → Prop} (S:ZipSep2 z TI TO i1 i2 fp1 fp2) (D1:Draws prog w A i1 fp1 n1 P1 St1) (D2:Draws prog w A i2 fp2 n2 P2 St2)
  (hz:Q2a s.heap z TI TO T f) (hT:∃ o,s.heap.get? T = some o) (hTI:IsTupOf2 s.heap TI (.ref i1) (.ref i2)) (st1:St1 i s.heap) (st2:St2 i s.heap) (hle1:i ≤ n1) (hle2:i ≤ n2) (hend:i = n1 ∨ i = n2)
  (hE:∀ h' tk e,(∀ c o,c ≠ z → c ≠ TO → c ≠ i1 → c ≠ i2 → s.heap.get? c = some o → h'.get? c = some o) → (∃ o,h'.get? e = some o ∧ o.cls = .type "StopIteration") → E (.ref e) { s with heap:=h',toks:=tk }) :
  wpAny (model prog w) A (Builtin.«zip.__next__» ⟨[.ref z],[]⟩) Q E s:=by
 obtain ⟨hp,g,d,tk0,os⟩:=s
 show wpAny _ _ (field (.ref z) 2 >>= _) _ _ _
 refine wpAny_bind (wpAny_field hz rfl (x:=.bool false) rfl ?_)
 show wpAny _ _ (field (.ref z) 3 >>= _) _ _ _
 refine wpAny_bind (wpAny_field hz rfl (x:=.ref TI) rfl ?_)
 refine wpAny_bind (wpAny_seqItems hTI rfl ?_)
 show wpAny _ _ (Builtin.SmallTypes.ownedTupleIsFree (.ref z) >>= _) _ _ _
 refine wpAny_bind (Q8U hz hT fun g0 hz0 hs0=>?_)
 replace hs0:Heap.SameBut z hp g0:=hs0
 simp only [Qx,if_false]
 refine wpAny_bind ?_
 rw [← Array.forIn_toList]
 simp only [List.forIn_cons,List.forIn_nil]
 refine wpAny_bind (wpAny_bind (wpAny_holding ?_))
 show wpAny _ _ (Builtin.SmallTypes.nextOf (.ref i1) >>= _) _ _ ⟨g0,g,d,tk0,os⟩
 by_cases hlt1:i < n1
 ·refine wpAny_bind (D1.item i _ _ _ hlt1 (D1.over st1 hs0 S.zf1) fun x1 p1 tk1 hx1 sn1 hp1=>wpAny_pure (wpAny_pure ?_))
  replace hp1:Heap.SameBut i1 g0 p1:=hp1
  refine wpAny_bind (wpAny_bind (wpAny_holding ?_))
  show wpAny _ _ (Builtin.SmallTypes.nextOf (.ref i2) >>= _) _ _ ⟨p1,g,d,tk1,os⟩
  have hi2:i = n2:=by omega
  refine wpAny_bind (D2.done ⟨p1,g,d,tk1,os⟩ _ _ (by rw [← hi2]; exact D2.over (D2.over st2 hs0 S.zf2) hp1 S.sep1_2) fun q e hq he=>?_)
  replace hq:Heap.ExtBut i2 p1 q:=hq
  exact hE q tk1 e (fun c o cz cT c1 c2 x=>hq _ _ c2 (hp1.extBut _ _ c1 (hs0.extBut _ _ cz x))) he
 ·have hi1:i = n1:=by omega
  refine wpAny_bind (D1.done ⟨g0,g,d,tk0,os⟩ _ _ (by rw [← hi1]; exact D1.over st1 hs0 S.zf1) fun q e hq he=>?_)
  replace hq:Heap.ExtBut i1 g0 q:=hq
  exact hE q tk0 e (fun c o cz cT c1 c2 x=>hq _ _ c1 (hs0.extBut _ _ cz x)) he
theorem QdV {Q:Option Value → Shared → Prop} (S:ZipSep2 z TI TO i1 i2 fp1 fp2) (D1:Draws prog w A.in1 i1 fp1 n1 P1 St1) (D2:Draws prog w A.in1 i2 fp2 n2 P2 St2)
  (hz:Q2a s.heap z TI TO T f) (hT:∃ o,s.heap.get? T = some o) (hTI:IsTupOf2 s.heap TI (.ref i1) (.ref i2)) (st1:St1 i s.heap) (st2:St2 i s.heap) (hlt1:i < n1) (hlt2:i < n2)
  (hQ:∀ x1 x2 h' tk,P1 i x1 → P2 i x2 → Q2a h' z TI TO T true → St1 (i + 1) h' → St2 (i + 1) h' → IsTupOf2 h' s.heap.objs.size x1 x2 → h'.objs.size = s.heap.objs.size + 1 →
   (∀ c o,c ≠ z → c ≠ TO → c ≠ i1 → c ≠ i2 → s.heap.get? c = some o → h'.get? c = some o) → Q (some (.ref s.heap.objs.size)) { s with heap:=h',toks:=tk }) :
  wpAny (model prog w) A (pyNext (.ref z)) Q E s:=by
 have hTy:s.TypeIs (.ref z) "zip":=⟨_,hz,rfl⟩
 unfold pyNext
 exact wpAny_bind (wpAny_attempt (wpAny_callSpecial?_slot (name:=Str.ofString "__next__") hTy F.slot_zip_next
  (wpAny_call_entry F.slot_zip_next hTy F.entry_zip_next
   (QdN S D1 D2 hz hT hTI st1 st2 hlt1 hlt2 fun x1 x2 h' tk y1 y2 b1 d1 d2 b5 b6 b7=>wpAny_pure (hQ x1 x2 h' tk y1 y2 b1 d1 d2 b5 b6 b7)) (F.args_zip_next_1 _))))
theorem Qfn {Q:Option Value → Shared → Prop} (S:ZipSep2 z TI TO i1 i2 fp1 fp2) (D1:Draws prog w A.in1 i1 fp1 n1 P1 St1) (D2:Draws prog w A.in1 i2 fp2 n2 P2 St2)
  (hz:Q2a s.heap z TI TO T f) (hT:∃ o,s.heap.get? T = some o) (hTI:IsTupOf2 s.heap TI (.ref i1) (.ref i2)) (st1:St1 i s.heap) (st2:St2 i s.heap) (hle1:i ≤ n1) (hle2:i ≤ n2) (hend:i = n1 ∨ i = n2)
  (hQ:∀ h' tk,(∀ c o,c ≠ z → c ≠ TO → c ≠ i1 → c ≠ i2 → s.heap.get? c = some o → h'.get? c = some o) → Q none { s with heap:=h',toks:=tk }):wpAny (model prog w) A (pyNext (.ref z)) Q E s:=by
 have hTy:s.TypeIs (.ref z) "zip":=⟨_,hz,rfl⟩
 unfold pyNext
 refine wpAny_bind (wpAny_attempt (wpAny_callSpecial?_slot (name:=Str.ofString "__next__") hTy F.slot_zip_next
  (wpAny_call_entry F.slot_zip_next hTy F.entry_zip_next (QfS S D1 D2 hz hT hTI st1 st2 hle1 hle2 hend fun h' tk e hk he=>?_) (F.args_zip_next_1 _))))
 obtain ⟨o,ho,hc⟩:=he
 refine wpAny_bind (wpAny_isInstance (T := "StopIteration") (b:=true) ⟨o,ho,hc⟩ isSubtype_stop ?_)
 exact wpAny_pure (hQ _ _ hk)
end
end Z
namespace Z
open PySem PySem.Spec PyProof.Rows L2 RT
theorem Qeg:typeLookup (.type "zip") "__len__" = pure none:=by rw [typeLookup_type,builtinLookup_eq_fast]; kernel_rfl
theorem Qck:typeLookup (.type "zip") "__length_hint__" = pure none:=by rw [typeLookup_type,builtinLookup_eq_fast]; kernel_rfl
structure Qiz (N:Addr) (P1 P2:Nat → Value → Prop) (acc:Array Value) (i:Nat) (h:Heap) (ts:List Addr):Prop where
 ac:acc.toList = ts.map Value.ref
 nd:ts.Nodup
 ln:ts.length = i
 pr:∀ j T,ts[j]? = some T → N ≤ T ∧ ∃ x y,P1 j x ∧ P2 j y ∧ IsTupOf2 h T x y
structure ZS (N z TI TO i1 i2:Addr) (St1 St2:Nat → Heap → Prop) (i:Nat) (h:Heap):Prop where
 ti:IsTupOf2 h TI (.ref i1) (.ref i2)
 s1:St1 i h
 s2:St2 i h
 zz:(IsZip h z TI TO .none ∧ ∃ a1 a2,IsTupOf2 h TO a1 a2) ∨ ∃ T f,Q2a h z TI TO T f ∧ (∃ o,h.get? T = some o) ∧ N ≤ T
abbrev IsL (h:Heap) (S:Addr) (acc:Array Value) (c:Nat):Prop:=h.get? S = some { cls:=.type "list",dict:=none,data:=.seq acc c,slots:=#[] }
section
variable {prog:Program} {w:World} {A:Around} {E:Value → Shared → Prop} {z TI TO i1 i2:Addr} {fp1 fp2:List Addr} {n1 n2:Nat} {P1 P2:Nat → Value → Prop} {St1 St2:Nat → Heap → Prop}
theorem Qh0 {N:Addr} {i:Nat} {s:Shared} {Q:Option Value → Shared → Prop} (S:ZipSep2 z TI TO i1 i2 fp1 fp2) (D1:Draws prog w A.in1 i1 fp1 n1 P1 St1) (D2:Draws prog w A.in1 i2 fp2 n2 P2 St2)
  (lz:z < N) (lT:TO < N) (l1:i1 < N) (l2:i2 < N) (hN:N ≤ s.heap.objs.size) (hs:ZS N z TI TO i1 i2 St1 St2 i s.heap) (h1:i < n1) (h2:i < n2)
  (hQ:∀ x y h' tk,P1 i x → P2 i y → ZS N z TI TO i1 i2 St1 St2 (i + 1) h' → IsTupOf2 h' s.heap.objs.size x y → h'.objs.size = s.heap.objs.size + 1 →
   (∀ c o,c ≠ z → c ≠ TO → c ≠ i1 → c ≠ i2 → s.heap.get? c = some o → h'.get? c = some o) → Q (some (.ref s.heap.objs.size)) { s with heap:=h',toks:=tk }) :
  wpAny (model prog w) A (pyNext (.ref z)) Q E s:=by
 obtain ⟨ti,s1,s2,zz⟩:=hs
 rcases zz with ⟨hz,a1,a2,hTO⟩ | ⟨T,f,hz,hT,hTN⟩
 ·refine wpAny_pyNext_zipD2_item S D1 D2 hz ti hTO s1 s2 h1 h2 fun x y h' tk y1 y2 b1 b2 d1 d2 b5 b6 hk=>?_
  exact hQ x y h' tk y1 y2 ⟨hk _ _ S.TIz S.TITO S.TIi1 S.TIi2 ti,d1,d2,.inr ⟨_,false,b1,⟨_,b5⟩,hN⟩⟩ b5 b6 hk
 ·refine QdV S D1 D2 hz hT ti s1 s2 h1 h2 fun x y h' tk y1 y2 b1 d1 d2 b5 b6 hk=>?_
  refine hQ x y h' tk y1 y2 ⟨hk _ _ S.TIz S.TITO S.TIi1 S.TIi2 ti,d1,d2,.inr ⟨_,true,b1,?_,hTN⟩⟩ b5 b6 hk
  obtain ⟨oT,eT⟩:=hT
  exact ⟨oT,hk _ _ (Je (Qs lz hTN)) (Je (Qs lT hTN)) (Je (Qs l1 hTN)) (Je (Qs l2 hTN)) eT⟩
theorem Qjj {N:Addr} {i:Nat} {s:Shared} {Q:Option Value → Shared → Prop} (S:ZipSep2 z TI TO i1 i2 fp1 fp2) (D1:Draws prog w A.in1 i1 fp1 n1 P1 St1) (D2:Draws prog w A.in1 i2 fp2 n2 P2 St2)
  (hs:ZS N z TI TO i1 i2 St1 St2 i s.heap) (h1:i ≤ n1) (h2:i ≤ n2) (he:i = n1 ∨ i = n2)
  (hQ:∀ h' tk,(∀ c o,c ≠ z → c ≠ TO → c ≠ i1 → c ≠ i2 → s.heap.get? c = some o → h'.get? c = some o) → Q none { s with heap:=h',toks:=tk }) :
  wpAny (model prog w) A (pyNext (.ref z)) Q E s:=by
 obtain ⟨ti,s1,s2,zz⟩:=hs
 rcases zz with ⟨hz,a1,a2,hTO⟩ | ⟨T,f,hz,hT,hTN⟩
 ·exact wpAny_pyNext_zipD2_end S D1 D2 hz ti hTO s1 s2 h1 h2 he hQ
 ·exact Qfn S D1 D2 hz hT ti s1 s2 h1 h2 he hQ
theorem Qgv {N L:Addr} {R:Result → Shared → Prop} {res:Value} (S:ZipSep2 z TI TO i1 i2 fp1 fp2) (D1:Draws prog w A.in1.in1 i1 fp1 n1 P1 St1) (D2:Draws prog w A.in1.in1 i2 fp2 n2 P2 St2)
  (lz:z < N) (lT:TO < N) (l1:i1 < N) (l2:i2 < N) (lL:L < N) (Lz:L ≠ z) (LTI:L ≠ TI) (LTO:L ≠ TO) (L1:L ∉ fp1) (L2:L ∉ fp2) (hn:min n1 n2 ≤ sizeLine) :
  ∀ (k i:Nat) (s:Shared) (acc:Array Value) (c:Nat) (ts:List Addr),min n1 n2 - i = k → i ≤ min n1 n2 → N ≤ s.heap.objs.size → ZS N z TI TO i1 i2 St1 St2 i s.heap → IsL s.heap L acc c → Qiz N P1 P2 acc i s.heap ts →
   (∀ h' tk acc' c' ts',(∀ b o,b ≠ L → b ≠ z → b ≠ TO → b ≠ i1 → b ≠ i2 → s.heap.get? b = some o → h'.get? b = some o) → IsL h' L acc' c' → Qiz N P1 P2 acc' (min n1 n2) h' ts' → R (.ok (.ret res)) { s with heap:=h',toks:=tk }) →
   codeAny (model prog w) A (.builtin "list.extend.loop" ⟨[.ref L,.ref z,res],[]⟩) R s:=by
 have Li1:L ≠ i1:=fun e=>L1 (e ▸ S.mem1)
 have Li2:L ≠ i2:=fun e=>L2 (e ▸ S.mem2)
 intro k
 induction k with
 | zero =>
  intro i s acc c ts hk hi hN hs hL ha hR
  have hin:i = min n1 n2:=by omega
  subst hin
  refine codeAny_builtin F.entry_extend_loop ?_
  rw [Around.under_plainId F.plain_extend_loop _]
  show wpAny _ A.in1 (pyNext (.ref z) >>= _) _ _ s
  refine wpAny_bind (Qjj S D1 D2 hs (by omega) (by omega) (by omega) fun h' tk hk=>?_)
  refine wpAny_pure (hR h' tk acc c ts (fun b o _ bz bT b1 b2 e=>hk b o bz bT b1 b2 e) (hk _ _ Lz LTO Li1 Li2 hL) ⟨ha.ac,ha.nd,ha.ln,fun j T hj=>?_⟩)
  obtain ⟨hT,x,y,p1,p2,p3⟩:=ha.pr j T hj
  exact ⟨hT,x,y,p1,p2,hk _ _ (Je (Qs lz hT)) (Je (Qs lT hT)) (Je (Qs l1 hT)) (Je (Qs l2 hT)) p3⟩
 | succ k ih =>
  intro i s acc c ts hk hi hN hs hL ha hR
  have hlt:i < min n1 n2:=by omega
  refine codeAny_builtin F.entry_extend_loop ?_
  rw [Around.under_plainId F.plain_extend_loop _]
  show wpAny _ A.in1 (pyNext (.ref z) >>= _) _ _ s
  refine wpAny_bind (Qh0 S D1 D2 lz lT l1 l2 hN hs (by omega) (by omega) fun x y h' tk y1 y2 hs' hT hsz hk'=>?_)
  have hL':IsL h' L acc c:=hk' _ _ Lz LTO Li1 Li2 hL
  show wpAny _ A.in1 (updateSeq L (·.push (.ref s.heap.objs.size)) >>= _) _ _ _
  have hacs:acc.size = i:=by rw [← Array.length_toList,ha.ac,Q4,ha.ln]
  have ou:∀ b o,b ≠ L → h'.get? b = some o → (h'.update L (Obj.mapSeq (·.push (.ref s.heap.objs.size)))).get? b = some o:=fun b o hb e=>(Heap.get?_update_other _ _ (Ne.symm hb)).trans e
  have Nge:∀ {T:Addr},N ≤ T → T ≠ L ∧ T ≠ z ∧ T ≠ TO ∧ T ≠ i1 ∧ T ≠ i2:=fun hT=>⟨Je (Qs lL hT),Je (Qs lz hT),Je (Qs lT hT),Je (Qs l1 hT),Je (Qs l2 hT)⟩
  refine wpAny_bind ?_
  refine wpAny_updateSeq (s:={ s with heap:=h',toks:=tk }) hL' rfl (wpAny_pure ⟨plainId_quiet F.plain_extend_loop _,ih (i + 1) _ (acc.push (.ref s.heap.objs.size)) _ (ts ++ [s.heap.objs.size]) (by omega) hlt ?_ ?_ (Heap.get?_update_self _ hL' rfl) ?_ fun h2 tk2 acc' c' ts' hk2 hL2 ha2=>?_⟩)
   (by rw [hacs]; omega) (by show (acc.push _).size ≤ sizeLine + 1; rw [Array.size_push,hacs]; omega)
  ·show N ≤ (h'.update L _).objs.size
   rw [(Heap.SameBut.update ..).1,hsz]
   exact Nat.le_succ_of_le hN
  ·obtain ⟨ti,s1,s2,zz⟩:=hs'
   refine ⟨ou _ _ (Ne.symm LTI) ti,D1.frame _ _ _ s1 fun b hb o e=>ou b o (fun q=>L1 (q ▸ hb)) e,D2.frame _ _ _ s2 fun b hb o e=>ou b o (fun q=>L2 (q ▸ hb)) e,?_⟩
   rcases zz with ⟨hz,a1,a2,hTO⟩ | ⟨T,f,hz,⟨oT,eT⟩,hTN⟩
   ·exact .inl ⟨ou _ _ (Ne.symm Lz) hz,a1,a2,ou _ _ (Ne.symm LTO) hTO⟩
   ·exact .inr ⟨T,f,ou _ _ (Ne.symm Lz) hz,⟨oT,ou _ _ (Nge hTN).1 eT⟩,hTN⟩
  ·refine ⟨by rw [Array.toList_push,ha.ac,Jw]; rfl,?_,by rw [Qb,ha.ln]; rfl,fun j T hj=>?_⟩
   ·rw [X4]
    refine ⟨ha.nd,by simp,fun a hm b hb=>?_⟩
    rw [Qr] at hb
    subst hb
    intro q
    subst q
    obtain ⟨j,hj⟩:=List.mem_iff_getElem?.mp hm
    obtain ⟨_,x',y',_,_,p3⟩:=ha.pr j _ hj
    exact Nat.lt_irrefl _ (Heap.lt_size p3)
   ·rcases Nat.lt_or_ge j ts.length with hj' | hj'
    ·rw [Qm hj'] at hj
     obtain ⟨hTN,x',y',p1,p2,p3⟩:=ha.pr j T hj
     have q:=Nge hTN
     exact ⟨hTN,x',y',p1,p2,ou _ _ q.1 (hk' _ _ q.2.1 q.2.2.1 q.2.2.2.1 q.2.2.2.2 p3)⟩
    ·rw [J1 hj'] at hj
     have hji:j = i:=by
      rw [ha.ln] at hj hj'
      rcases Nat.lt_or_ge i j with c0 | c0
      ·rw [Qz (by simp; omega)] at hj; cases hj
      ·omega
     subst hji
     rw [ha.ln,Nat.sub_self] at hj
     cases hj
     exact ⟨hN,x,y,y1,y2,ou _ _ (Nge hN).1 hT⟩
  ·exact hR h2 tk2 acc' c' ts' (fun b o bL bz bT b1 b2 e=>hk2 b o bL bz bT b1 b2 (ou b o bL (hk' b o bz bT b1 b2 e))) hL2 ha2
end
end Z
namespace Z
open PySem PySem.Spec PyProof.Rows L2 RT
section
variable {prog:Program} {w:World} {A:Around} {E:Value → Shared → Prop} {s:Shared} {z TI TO i1 i2:Addr} {fp1 fp2:List Addr} {n1 n2:Nat} {P1 P2:Nat → Value → Prop} {St1 St2:Nat → Heap → Prop}
theorem QeN {f0:Value} {Q:Bool → Shared → Prop} (hz:IsZip s.heap z TI TO f0) (h:Q true s):wpAny (model prog w) A (Builtin.List.listLengthHint (.ref z)) Q E s:=by
 have hT:s.TypeIs (.ref z) "zip":=⟨_,hz,rfl⟩
 unfold Builtin.List.listLengthHint
 refine wpAny_bind (wpAny_specialOf hT Qeg ?_)
 show wpAny _ _ (specialOf (Value.ref z) (Str.ofString "__length_hint__") >>= _) _ _ _
 refine wpAny_bind (wpAny_specialOf hT Qck ?_)
 exact wpAny_pure h
theorem Qfp {L:Addr} {R:Result → Shared → Prop} (S:ZipSep2 z TI TO i1 i2 fp1 fp2) (D1:Draws prog w A.in1.in1 i1 fp1 n1 P1 St1) (D2:Draws prog w A.in1.in1 i2 fp2 n2 P2 St2)
  (lz:z < s.heap.objs.size) (lT:TO < s.heap.objs.size) (l1:i1 < s.heap.objs.size) (l2:i2 < s.heap.objs.size) (Lz:L ≠ z) (LTI:L ≠ TI) (LTO:L ≠ TO) (L1:L ∉ fp1) (L2:L ∉ fp2) (hn:min n1 n2 ≤ sizeLine)
  (hz:IsZip s.heap z TI TO .none) (hTO:IsTupOf2 s.heap TO .none .none) (ti:IsTupOf2 s.heap TI (.ref i1) (.ref i2)) (s1:St1 0 s.heap) (s2:St2 0 s.heap)
  (hS:s.heap.get? L = some { cls:=.type "list",data:=.seq #[] })
  (hR:∀ (h':Heap) (tk:Nat) (acc:Array Value) (c:Nat) (ts:List Addr),(∀ b o,b ≠ L → b ≠ z → b ≠ TO → b ≠ i1 → b ≠ i2 → s.heap.get? b = some o → h'.get? b = some o) → IsL h' L acc c → Qiz s.heap.objs.size P1 P2 acc (min n1 n2) h' ts → R (.ok (.ret .none)) { s with heap:=h',toks:=tk }) :
  wpAny (model prog w) A.in1 (Builtin.«list.__init__» ⟨[.ref L,.ref z],[]⟩)
   (fun fin s'=>match fin with | .done f=>R (.ok f) s' | .again c'=>c'.quiet = true ∧ codeAny (model prog w) A c' R s') (fun e s'=>R (.error e) s') s:=by
 have lL:L < s.heap.objs.size:=Heap.lt_size hS
 show wpAny _ A.in1 (do let old ← Builtin.List.listItems (.ref L); Builtin.List.listUpdate (.ref L) (fun _=>#[]); letGo old.toList.reverse; Builtin.List.listExtendWith (.ref L) (.ref z) .none) _ _ s
 refine wpAny_bind ?_
 unfold Builtin.List.listItems
 refine wpAny_bind (wpAny_seqItems hS rfl (wpAny_pure ?_))
 show wpAny _ A.in1 (updateSeq L (fun _=>#[]) >>= fun _=>letGo (#[]:Array Value).toList.reverse >>= fun _=>Builtin.List.listExtendWith (.ref L) (.ref z) .none) _ _ s
 refine wpAny_bind (wpAny_updateSeq hS rfl ?_)
 have hS₂:=Heap.get?_update_self (Obj.mapSeq (fun _=>(#[]:Array Value))) hS rfl
 have oth:∀ b o,b ≠ L → s.heap.get? b = some o → (s.heap.update L (Obj.mapSeq (fun _=>(#[]:Array Value)))).get? b = some o :=
  fun b o hb e=>(Heap.get?_update_other _ _ (Ne.symm hb)).trans e
 refine wpAny_bind (wpAny_letGo ?_)
 have sz1:(s.heap.update L (Obj.mapSeq (fun _=>(#[]:Array Value)))).objs.size = s.heap.objs.size:=(Heap.SameBut.update ..).1
 generalize hs1:({ s with heap:=s.heap.update L (Obj.mapSeq (fun _=>(#[]:Array Value))) }:Shared) = sA
 have szA:sA.heap.objs.size = s.heap.objs.size:=by subst hs1; exact sz1
 have othA:∀ b o,b ≠ L → s.heap.get? b = some o → sA.heap.get? b = some o:=by subst hs1; exact oth
 have hSA:sA.heap.get? L = some { cls:=.type "list",data:=.seq #[] }:=by subst hs1; exact hS₂
 have es:∀ h' tk,({ s with heap:=h',toks:=tk }:Shared) = { sA with heap:=h',toks:=tk }:=by
  subst hs1
  intro h' tk
  rfl
 have hzA:IsZip sA.heap z TI TO .none:=othA _ _ (Ne.symm Lz) hz
 have hT:sA.TypeIs (.ref z) "zip":=⟨_,hzA,rfl⟩
 have h1:Builtin.List.listSameRef (.ref L) (.ref z) = false:=by simp [Builtin.List.listSameRef,Lz]
 unfold Builtin.List.listExtendWith
 refine wpAny_bind (wpAny_typeOf hT ?_)
 rw [if_neg (by rw [h1]; decide)]
 refine wpAny_bind (wpAny_pyIter_zip hzA ?_)
 refine wpAny_bind (wpAny_holding (QeN hzA ?_))
 rw [if_pos (by decide)]
 refine wpAny_bind (wpAny_bind (wpAny_rule ?_))
 unfold Builtin.List.listTouch
 refine wpAny_pure (wpAny_bind (wpAny_bind ?_))
 show wpAny _ A.in1 (updateSeq L (·.push .none)) _ _ sA
 refine wpAny_updateSeq hSA rfl ?_
 have hSB:=Heap.get?_update_self (Obj.mapSeq (·.push Value.none)) hSA rfl
 show wpAny _ A.in1 (updateSeq L (·.pop)) _ _ _
 refine wpAny_updateSeq (s:={ sA with heap:=sA.heap.update L (Obj.mapSeq (·.push .none)) }) hSB rfl ?_
 have hSC:=Heap.get?_update_self (h:=sA.heap.update L (Obj.mapSeq (·.push .none))) (Obj.mapSeq (·.pop)) hSB rfl
 have othC:∀ b o,b ≠ L → s.heap.get? b = some o → ((sA.heap.update L (Obj.mapSeq (·.push .none))).update L (Obj.mapSeq (·.pop))).get? b = some o :=
  fun b o hb e=>(Heap.get?_update_other _ _ (Ne.symm hb)).trans ((Heap.get?_update_other _ _ (Ne.symm hb)).trans (othA b o hb e))
 have szC:((sA.heap.update L (Obj.mapSeq (·.push .none))).update L (Obj.mapSeq (·.pop))).objs.size = s.heap.objs.size:=by
  rw [(Heap.SameBut.update ..).1,(Heap.SameBut.update ..).1,szA]
 have hSD:∃ c,IsL ((sA.heap.update L (Obj.mapSeq (·.push .none))).update L (Obj.mapSeq (·.pop))) L #[] c:=⟨_,hSC⟩
 clear hSC
 show wpAny _ A.in1 _ _ _ { sA with heap:=(sA.heap.update L (Obj.mapSeq (·.push .none))).update L (Obj.mapSeq (·.pop)) }
 revert othC szC hSD
 generalize (sA.heap.update L (Obj.mapSeq (·.push .none))).update L (Obj.mapSeq (·.pop)) = hC
 intro othC szC ⟨c,hSC⟩
 have loop:=Qgv (prog:=prog) (w:=w) (A:=A) (R:=R) (res:=.none) (N:=s.heap.objs.size) S D1 D2 lz lT l1 l2 lL Lz LTI LTO L1 L2 hn (min n1 n2) 0 { sA with heap:=hC } #[] c [] rfl (Jo _) (Nat.le_of_eq szC.symm)
  ⟨othC _ _ (Ne.symm LTI) ti,D1.frame _ _ _ s1 fun b hb o e=>othC b o (fun q=>L1 (q ▸ hb)) e,D2.frame _ _ _ s2 fun b hb o e=>othC b o (fun q=>L2 (q ▸ hb)) e,.inl ⟨othC _ _ (Ne.symm Lz) hz,_,_,othC _ _ (Ne.symm LTO) hTO⟩⟩
  hSC ⟨rfl,List.nodup_nil,rfl,fun j T hj=>by simp at hj⟩ fun h' tk acc' c' ts' hk hL ha=>by
   have:=hR h' tk acc' c' ts' (fun b o bL bz bT b1 b2 e=>hk b o bL bz bT b1 b2 (othC b o bL e)) hL ha
   rw [es] at this
   exact this
 exact wpAny_pure ⟨plainId_quiet F.plain_extend_loop _,loop⟩
end
end Z
namespace Z
open PySem PySem.Spec PyProof.Rows L2 RT
def Q3z (H:Hp) (L:List (Addr × HO)):Hp:=L.foldl (fun H p=>upd H p.1 p.2) H
theorem Q61 (H:Hp) (p:Addr × HO) (L:List (Addr × HO)):Q3z H (p :: L) = Q3z (upd H p.1 p.2) L:=rfl
theorem Qek (H:Hp) (L:List (Addr × HO)) (p:Addr × HO):Q3z H (L ++ [p]) = upd (Q3z H L) p.1 p.2:=by
 unfold Q3z
 rw [List.foldl_append]
 rfl
theorem Q3j:∀ (L:List (Addr × HO)) (H:Hp) {b:Addr},(∀ p ∈ L,b ≠ p.1) → Q3z H L b = H b
 | [],_,_,_=>rfl
 | p :: L,H,b,h=>by
  rw [Q61,Q3j L _ fun q hq=>h q (Q6 _ hq),upd_ne (h p (Q7 ..))]
theorem Q6Z:∀ (L:List (Addr × HO)) (H:Hp) {b:Addr} {o:HO},Q3z H L b = some o → (b,o) ∈ L ∨ H b = some o
 | [],_,_,_,h=>.inr h
 | p :: L,H,b,o,h=>by
  rw [Q61] at h
  rcases Q6Z L _ h with h | h
  ·exact .inl (Q6 _ h)
  ·by_cases c:b = p.1
   ·subst c
    rw [upd_same] at h
    cases h
    exact .inl (Q7 ..)
   ·rw [upd_ne c] at h
    exact .inr h
section
variable {X:Cx} {pins:List (Addr × Obj)} {σ:L2.St} {H:Hp} {s:Shared} {h':Heap}
theorem Qgg {t':Nat} (I:Inv X pins σ H s) (k:∀ b u,s.heap.get? b = some u → h'.get? b = some u) (L:List (Addr × HO)) (hp:∀ p ∈ L,s.heap.objs.size ≤ p.1)
  (new:∀ a o,(a,o) ∈ L → ObjOk X.prog X.w (Q3z H L) h' a o):Inv X pins σ (Q3z H L) { s with heap:=h',toks:=t' }:=by
 have out:∀ {b:Addr} {u:HO},H b = some u → Q3z H L b = some u:=fun {b u} e=>by
  rw [Q3j L H fun p hpm q=>?_]
  ·exact e
  ·have:=I.hok.fresh (hp p hpm)
   rw [← q,e] at this
   cases this
 refine I.un ⟨fun b o q _ _ _=>k b o q,fun b o q _ _ _=>⟨o.slots,k b o q⟩,fun b o q n _=>?_,fun b o q _=>⟨o,k b o q⟩,fun b xs q=>out q,fun b o u q=>out q,fun b ps q=>⟨#[],by rw [out q]; simp⟩⟩ fun b o e=>?_
 ·rw [Q3j L H fun p hpm=>Jz (Qs (Heap.lt_size q) (hp p hpm))]
  exact n
 ·rcases Q6Z L H e with z | z
  ·exact new b o z
  ·exact (I.hok b o z).stay (fun c v _ q=>k c v q) (fun c q=>out q) fun c xs q=>out q
end
def Sq (K:PySem.W.Frag) (H:Hp) (x:V) (xs:List V):Prop:=∃ a,x = .ref a ∧ (SqL K H a xs ∨ SqT K H a xs)
theorem Qf0 {X:Cx} {pins:List (Addr × Obj)} {σ:L2.St} {H:Hp} {s:Shared} {x:V} {xs:List V} {u:Value} (I:Inv X pins σ H s) (r:RelV x u) (h:Sq X.K H x xs) :
  ∃ (o:Obj) (l:Addr) (its:List Value) (Hb:Heap → Prop),Begins u o Hb ∧ Hb s.heap ∧ l < s.heap.objs.size ∧ Vals xs its ∧ its.length ≤ sizeLine ∧
   ∀ (prog:Program) (w:World) (A:Around) (it:Addr),A.handled = none → l ≠ it → ∃ St:Nat → Heap → Prop,Draws prog w A it [it,l] its.length (fun i v=>its[i]? = some v) St ∧
    ∀ h',h'.get? it = some o → (∀ c o,s.heap.get? c = some o → h'.get? c = some o) → St 0 h':=by
 obtain ⟨a,rfl,h⟩:=h
 cases r
 rcases h with h | h
 ·obtain ⟨its,rv,p,hz⟩:=I.list h
  refine ⟨_,a,its,_,begins_list a its.toArray,p.isList,p.lt,rv,by rw [← rv.length]; exact hz,?_⟩
  intro prog w A it hh hne
  have D:Draws prog w A it [it,a] its.length (fun i v=>its[i]? = some v) (fun i h=>h.IsListIter it a i ∧ h.IsList a its.toArray):=by
   have:=Draws.list (prog:=prog) (w:=w) (A:=A) hh it a hne its.toArray
   simpa using this
  exact ⟨_,D,fun h' e k=>⟨⟨_,e,rfl,rfl⟩,p.isList.at fun o q=>k _ o q⟩⟩
 ·obtain ⟨its,rv,p,hz⟩:=I.tuple h
  have pt:s.heap.IsTuple a its.toArray:=p
  obtain ⟨ob,eo,_⟩:=id p
  refine ⟨_,a,its,_,begins_tuple a its.toArray,pt,Heap.lt_size eo,rv,by rw [← rv.length]; exact hz,?_⟩
  intro prog w A it hh hne
  have D:Draws prog w A it [it,a] its.length (fun i v=>its[i]? = some v) (fun i h=>h.IsTupleIter it a i ∧ h.IsTuple a its.toArray):=by
   have:=Draws.tuple (prog:=prog) (w:=w) (A:=A) hh it a hne its.toArray
   simpa using this
  exact ⟨_,D,fun h' e k=>⟨⟨_,e,rfl,rfl⟩,pt.at fun o q=>k _ o q⟩⟩
def prs (xs ys:List V):List HO:=(xs.zip ys).map fun p=>.tup [p.1,p.2]
def Qgk (K:PySem.W.Frag) (ta:TA):TE:=fun σ H Q=>ta σ H fun vs H1=>∃ x y xs ys,vs = [x,y] ∧ Sq K H1 x xs ∧ Sq K H1 y ys ∧
 ∀ (ts:List Addr) (q:Addr),ts.length = min xs.length ys.length → ts.Nodup → q ∉ ts → (∀ T ∈ ts,H1 T = none) → H1 q = none → Q (.ref q) (Q3z H1 (ts.zip (prs xs ys) ++ [(q,.lst (ts.map V.ref))]))
theorem Q8D:∀ ts:List Addr,Vals (ts.map V.ref) (ts.map Value.ref)
 | []=>.nil
 | t :: ts=>.cons (show RelV (V.ref t) (Value.ref t) from rfl) (Q8D ts)
theorem QdD {X:Cx} {e e2:Expr} {ta:TA} {p p2 pos pos2:Pos} (hc:X.calm = true) (hg:Gl X "list") (hm:X.mg "list" = none) (hg2:Gl X "zip") (hm2:X.mg "zip" = none) (ha:PA X [e,e2] ta)
  (hs:starEach [e,e2] X.env = (false,eval e X.env) :: starEach [e2] X.env:=by rfl) (hpl:(backTo pos2 (starEach [e2] X.env)).any (·.1) = false:=by rfl)
  (hs2:starEach [.Call (.Name "zip" p2) [e,e2] [] pos2] X.env = (false,eval (.Call (.Name "zip" p2) [e,e2] [] pos2) X.env) :: starEach [] X.env:=by rfl) :
  PE X (.Call (.Name "list" p) [.Call (.Name "zip" p2) [e,e2] [] pos2] [] pos) (Qgk X.K ta):=by
 refine ⟨fun pins s σ H Q I h=>?_⟩
 refine Call_ (ld_blt I hg hm boot_list (PyProof.Rows.callWith_type1 (args_cons (Call_ (ld_blt I hg2 hm2 PyProof.Rows.boot_zip (PyProof.Rows.callWith_type1 (thn (ha.run pos2 pins s σ H _ I h) fun us s1 ⟨vs,H1,I1,r1,q1⟩=>?_) hs hpl))) hs2) hs2 rfl))
 obtain ⟨x,y,xs,ys,ev,hx,hy,q⟩:=q1
 subst ev
 cases r1 with
 | cons ra rr =>
 cases rr with
 | cons rb rr =>
 cases rr
 rename_i ua ub
 obtain ⟨o1,l1,its1,Hb1,B1,hb1,lt1,rv1,z1,D1⟩:=Qf0 I1 ra hx
 obtain ⟨o2,l2,its2,Hb2,B2,hb2,lt2,rv2,z2,D2⟩:=Qf0 I1 rb hy
 refine zip_begins2 B1 B2 hb1 hb2 fun h' hz hTI hTO g1 g2 hsz hk=>args_nil ?_
 have hh:=I1.ok.hd hc
 generalize hN:s1.heap.objs.size = N at *
 obtain ⟨St1,Dr1,st1⟩:=D1 X.prog X.w X.A.in1.in1.in1 N hh (Jz lt1)
 obtain ⟨St2,Dr2,st2⟩:=D2 X.prog X.w X.A.in1.in1.in1 (N + 1) hh (Jz (Nat.lt_succ_of_lt lt2))
 have S:=zip_sep2 (N:=N) (fp1:=[l1]) (fp2:=[l2]) (fun b hb=>by rw [Qr] at hb; subst hb; exact lt1) (fun b hb=>by rw [Qr] at hb; subst hb; exact lt2)
 refine callType_codes (Q₁:=fun obj s₁=>obj = .ref h'.objs.size ∧ s₁ = { s1 with heap:=h'.push { cls:=.type "list",data:=.seq #[] } }) F.called_list (F.typeCall_list_1 _) F.entry_list_init
  (code_list_new _ ⟨rfl,rfl⟩) fun obj s₁ h₁=>?_
 obtain ⟨rfl,rfl⟩:=h₁
 have kp:∀ b o,h'.get? b = some o → (h'.push { cls:=.type "list",data:=.seq #[] }).get? b = some o:=fun b o e=>Heap.get?_push_of_some _ e
 have hS:(h'.push { cls:=.type "list",data:=.seq #[] }).get? h'.objs.size = some { cls:=.type "list",data:=.seq #[] }:=Heap.get?_push_size _ rfl
 have sz6:(h'.push { cls:=.type "list",data:=.seq #[] }).objs.size = N + 6:=by rw [Heap.size_push,hsz]
 rw [hsz] at hS ⊢
 refine ⟨⟨_,hS,rfl⟩,F.args_list_init_2 _ _,Qfp (A:=X.A.in1) (s:={ s1 with heap:=h'.push { cls:=.type "list",data:=.seq #[] } }) S Dr1 Dr2 ?_ ?_ ?_ ?_ ?_ ?_ ?_ ?_ ?_ ?_ (kp _ _ hz) (kp _ _ hTO) (kp _ _ hTI)
  (st1 _ (kp _ _ g1) fun c o e=>kp _ _ (hk c o e)) (st2 _ (kp _ _ g2) fun c o e=>kp _ _ (hk c o e)) hS fun h2 tk acc c ts hk2 hL hP=>?_⟩
 ·show N + 4 < (h'.push _).objs.size
  rw [sz6]
  exact Js (by decide) N
 ·show N + 3 < (h'.push _).objs.size
  rw [sz6]
  exact Js (by decide) N
 ·show N < (h'.push _).objs.size
  rw [sz6]
  exact Nat.lt_add_of_pos_right (by decide)
 ·show N + 1 < (h'.push _).objs.size
  rw [sz6]
  exact Js (by decide) N
 ·exact Je (Js (by decide) N)
 ·exact Je (Js (by decide) N)
 ·exact Je (Js (by decide) N)
 ·intro hm
  rcases Qg.mp hm with e | hm
  ·exact absurd e (Je (Nat.lt_add_of_pos_right (by decide)))
  ·rw [Qr] at hm
   exact absurd hm (Je (Qs lt1 (Jk _ _)))
 ·intro hm
  rcases Qg.mp hm with e | hm
  ·exact absurd e (Je (Js (by decide) N))
  ·rw [Qr] at hm
   exact absurd hm (Je (Qs lt2 (Jk _ _)))
 ·omega
 ·have hPN:∀ {j:Nat} {T:Addr},ts[j]? = some T → N + 6 ≤ T ∧ ∃ x y,its1[j]? = some x ∧ its2[j]? = some y ∧ IsTupOf2 h2 T x y:=fun {j T} hj=>by
   have:=hP.pr j T hj
   rw [show ({ s1 with heap:=h'.push { cls:=.type "list",data:=.seq #[] } }:Shared).heap.objs.size = N + 6 from sz6] at this
   exact this
  have hTN:∀ {T:Addr},T ∈ ts → N + 6 ≤ T:=fun {T} hT=>by
   obtain ⟨j,hj⟩:=List.mem_iff_getElem?.mp hT
   exact (hPN hj).1
  have kk:∀ b u,s1.heap.get? b = some u → h2.get? b = some u:=fun b u e=>by
   have lt:b < N:=by rw [← hN]; exact Heap.lt_size e
   exact hk2 b u (Jz (Qs lt (Jk _ _))) (Jz (Qs lt (Jk _ _))) (Jz (Qs lt (Jk _ _))) (Jz lt) (Jz (Qs lt (Jk _ _))) (kp b u (hk b u e))
  have lz:ts.length ≤ sizeLine:=by rw [hP.ln]; omega
  have frN:∀ {T:Addr},N ≤ T → H1 T = none:=fun {T} hT=>I1.hok.fresh (by rw [hN]; exact hT)
  refine ⟨rfl,.ref (N + 5),_,Qgg (t':=tk) I1 kk (ts.zip (prs xs ys) ++ [((N + 5:Nat),.lst (ts.map V.ref))]) (fun p hp=>?_) (fun a o ho=>?_),rfl,q ts (N + 5) ?_ hP.nd ?_ (fun T hT=>frN (J3 (Jk _ _) (hTN hT))) (frN (Jk _ _))⟩
  ·rw [hN]
   rcases Qc.mp hp with hp | hp
   ·exact J3 (Jk _ _) (hTN (List.of_mem_zip hp).1)
   ·rw [Qr] at hp
    subst hp
    exact Jk _ _
  ·rcases Qc.mp ho with ho | ho
   ·obtain ⟨j,hj⟩:=List.mem_iff_getElem?.mp ho
    rw [X7] at hj
    obtain ⟨hj1,hj2⟩:=hj
    dsimp only at hj1 hj2
    obtain ⟨_,x',y',e1,e2,e3⟩:=hPN hj1
    unfold prs at hj2
    rw [Qp] at hj2
    cases e4:(xs.zip ys)[j]? with
    | none=>rw [e4] at hj2; cases hj2
    | some pq =>
     rw [e4] at hj2
     cases hj2
     rw [X7] at e4
     obtain ⟨u1,a1,b1⟩:=rv1.get e4.1
     obtain ⟨u2,a2,b2⟩:=rv2.get e4.2
     rw [e1] at a1
     rw [e2] at a2
     cases a1
     cases a2
     exact ⟨by show 2 ≤ sizeLine; decide,[x',y'],.cons b1 (.cons b2 .nil),⟨_,e3,rfl,_,rfl⟩⟩
   ·rw [Qr] at ho
    cases ho
    refine ⟨by rw [Q4]; exact lz,acc.toList,c,by rw [hP.ac]; exact Q8D ts,?_⟩
    rw [Array.toArray_toList]
    exact hL
  ·rw [hP.ln,rv1.length,rv2.length]
  ·intro hm
   have:=hTN hm
   exact absurd this (Nat.not_le_of_lt (Js (by decide) N))
end Z
namespace Z
open PySem PySem.Spec PyProof.Rows L2
section
variable {K:PySem.W.Frag} {Y:Fx} {δ:List Sl} {σ:L2.St} {A:Nat → List Addr}
theorem Q8V:∀ (L:List (Addr × HO)) {F H:Hp},SR K Y F H δ σ A → (L.map (·.1)).Nodup → (∀ p ∈ L,H p.1 = none) →
  SR K Y (Q3z F L) (Q3z H L) δ σ A ∧ Stp A [] F H (Q3z F L) (Q3z H L) ∧ (∀ p ∈ L,Q3z F L p.1 = some p.2)
 | [],F,H,S,_,_=>⟨S,Stp.refl,fun _ h=>nomatch h⟩
 | p :: L,F,H,S,nd,fr=>by
  rw [Qq,X8] at nd
  have hp:=fr p (Q7 ..)
  have S1:SR K Y (upd F p.1 p.2) (upd H p.1 p.2) δ σ A:=S.laid hp
  have st1:Stp A [] F H (upd F p.1 p.2) (upd H p.1 p.2):=Stp.laid S hp
  have fr1:∀ q ∈ L,upd H p.1 p.2 q.1 = none:=fun q hq=>by
   rw [upd_ne (fun e=>nd.1 (Qy.mpr ⟨q,hq,e⟩))]
   exact fr q (Q6 _ hq)
  obtain ⟨a,b,c⟩:=Q8V L S1 nd.2 fr1
  refine ⟨a,Vj S1 st1 b,fun q hq=>?_⟩
  rcases Qg.mp hq with rfl | hq
  ·rw [Q61,Q3j L _ fun r hr e=>nd.1 (Qy.mpr ⟨r,hr,e.symm⟩)]
   exact upd_same
  ·exact c q hq
end
def sqD:D → Option (List D)
 | .list ds=>some ds
 | .tuple ds=>some ds
 | _=>none
def QaP (p:D × D):D:=.tuple [p.1,p.2]
def Qdm:List D → Option D
 | [d,e]=>(sqD d).bind fun a=>(sqD e).map fun b=>.list ((a.zip b).map QaP)
 | _=>none
theorem QhY {K:PySem.W.Frag} {Y:Fx} {F H:Hp} {δ:List Sl} {σ:L2.St} {A:Nat → List Addr} {R:List Nat} {v:V} {d:D} {ds:List D} (S:SR K Y F H δ σ A) (r:Vw K F H A R v d) (h:sqD d = some ds):∃ xs,Sq K H v xs ∧ Rps K F xs ds:=by
 unfold sqD at h
 split at h
 ·cases h
  obtain ⟨a,xs,rfl,h1,h2⟩:=r.list S
  exact ⟨xs,⟨a,rfl,.inl (SqL.of h1)⟩,h2⟩
 ·cases h
  obtain ⟨a,xs,rfl,h0,h1,h2⟩:=r.tup S
  exact ⟨xs,⟨a,rfl,.inr h1⟩,h2⟩
 ·cases h
theorem Q8I {K:PySem.W.Frag} {F':Hp}:∀ {ts:List Addr} {xs ys:List V} {ds es:List D},Rps K F' xs ds → Rps K F' ys es → ts.length = min xs.length ys.length → (∀ p ∈ ts.zip (prs xs ys),F' p.1 = some p.2) → Rps K F' (ts.map V.ref) ((ds.zip es).map QaP)
 | [],xs,ys,ds,es,r1,r2,hl,_=>by
  have e1:=r1.length
  have e2:=r2.length
  have:(ds.zip es) = []:=by
   apply List.eq_nil_of_length_eq_zero
   rw [List.length_zip]
   simp only [Qw] at hl
   omega
  rw [this]
  exact .nil
 | t :: ts,x :: xs,y :: ys,d :: ds,e :: es,.cons a1 r1,.cons a2 r2,hl,h=>by
  have h0:F' t = some (.tup [x,y]):=h (t,.tup [x,y]) (Q7 ..)
  refine .cons (.tup (.inl (.inl h0)) (.cons a1 (.cons a2 .nil))) (Q8I r1 r2 (by simp only [Qh] at hl; omega) fun p hp=>h p (Q6 _ hp))
 | t :: ts,[],ys,ds,es,_,_,hl,_=>by simp at hl
 | t :: ts,x :: xs,[],ds,es,_,_,hl,_=>by simp at hl
theorem QdZ {X:Cx} {e e2:Expr} {f} {R M:List Nat} {p p2 pos pos2:Pos} (hc:X.calm = true) (hb:Gl X "list" ∧ X.mg "list" = none) (hz:Gl X "zip" ∧ X.mg "zip" = none) (ha:AV X [e,e2] f R M)
  (hs:starEach [e,e2] X.env = (false,eval e X.env) :: starEach [e2] X.env:=by rfl) (hpl:(backTo pos2 (starEach [e2] X.env)).any (·.1) = false:=by rfl)
  (hs2:starEach [.Call (.Name "zip" p2) [e,e2] [] pos2] X.env = (false,eval (.Call (.Name "zip" p2) [e,e2] [] pos2) X.env) :: starEach [] X.env:=by rfl) :
  NV X (.Call (.Name "list" p) [.Call (.Name "zip" p2) [e,e2] [] pos2] [] pos) (fA Qdm f) M:=by
 obtain ⟨t,pe,q⟩:=ha
 refine ⟨_,QdD hc hb.1 hb.2 hz.1 hz.2 pe hs hpl hs2,fun Y F H δ σ A S z δ' e0 Q k=>?_⟩
 obtain ⟨ds,e1,e3⟩:=Q5j e0
 unfold Qdm at e3
 split at e3
 ·rename_i d e'
  cases e4:sqD d with
  | none=>rw [e4] at e3; cases e3
  | some a =>
  cases e5:sqD e' with
  | none=>rw [e4,e5] at e3; cases e3
  | some b =>
  rw [e4,e5] at e3
  cases e3
  refine q Y F H δ σ A S _ δ' e1 _ fun vs F1 H1 st1 S1 r1=>?_
  obtain ⟨v,u,rfl,ra,rb⟩:=r1.two
  obtain ⟨xs,hx,r2⟩:=QhY S1 ra e4
  obtain ⟨ys,hy,r3⟩:=QhY S1 rb e5
  refine ⟨v,u,xs,ys,rfl,hx,hy,fun ts qa hl nd nq fr fq=>?_⟩
  have hpl:(prs xs ys).length = min xs.length ys.length:=by unfold prs; rw [Q4,List.length_zip]
  have hmap:(ts.zip (prs xs ys)).map (·.1) = ts:=by
   rw [List.map_fst_zip]
   omega
  have fr2:∀ p ∈ ts.zip (prs xs ys),H1 p.1 = none:=fun p hp=>fr _ (List.of_mem_zip hp).1
  obtain ⟨S2,st2,hF⟩:=Q8V (ts.zip (prs xs ys)) S1 (by rw [hmap]; exact nd) fr2
  have fq2:Q3z H1 (ts.zip (prs xs ys)) qa = none:=by
   rw [Q3j _ _ fun p hp (e:qa = p.1)=>nq (by rw [e]; exact (List.of_mem_zip hp).1)]
   exact fq
  have st3:=Vj S1 st1 st2
  rw [Qek]
  refine k qa _ _ (Vj S2 st3 (Stp.laidO fq2)) (S2.laidO fq2) (Q6F st1 S1 fq) (S2.sub.free fq2) ⟨_,upd_same,?_⟩
  exact Q8I (r2.mono st2.f) (r3.mono st2.f) hl hF
 ·cases e3
end Z
namespace Z
open PySem PySem.Spec PyProof.Rows L2

end Z
namespace Z
open PySem PySem.Spec PyProof.Rows L2


end Z
namespace Z
open PySem PySem.Spec PyProof.Rows L2


end Z
namespace Z
open PySem PySem.Spec PyProof.Rows L2
theorem Q7k {α:Type}:∀ xs:List α,(Jj xs.length).filterMap (fun m=>xs[m]?) = xs
 | []=>rfl
 | x :: xs=>by
  rw [Qh,List.range_succ_eq_map,Jh]
  show x :: _ = _
  rw [List.filterMap_map]
  exact congrArg _ (Q7k xs)
theorem Qfk {α:Type} (xs:List α):(Jj xs.length).filterMap (fun (m:Nat)=>xs[((xs.length:Int) - 1 + (m:Int) * (-1)).toNat]?) = xs.reverse:=by
 have e:(Jj xs.length).filterMap (fun (m:Nat)=>xs[((xs.length:Int) - 1 + (m:Int) * (-1)).toNat]?) = (Jj xs.reverse.length).filterMap (fun m=>xs.reverse[m]?):=by
  rw [Xc]
  have:∀ ms:List Nat,(∀ m ∈ ms,m < xs.length) → ms.filterMap (fun (m:Nat)=>xs[((xs.length:Int) - 1 + (m:Int) * (-1)).toNat]?) = ms.filterMap (fun m=>xs.reverse[m]?):=by
   intro ms
   induction ms with
   | nil=>intro _; rfl
   | cons m ms ih =>
    intro h
    have hm:=h m (Q7 ..)
    rw [Jh,Jh,ih fun z hz=>h z (Q6 _ hz),List.getElem?_reverse hm]
    have:((xs.length:Int) - 1 + (m:Int) * (-1)).toNat = xs.length - 1 - m:=by omega
    rw [this]
  exact this _ fun m hm=>List.mem_range.mp hm
 rw [e,Q7k]
section
variable {P:Program} {w:World} {A:Around} {E:Value → Shared → Prop} {s:Shared}
theorem Qbm {sl:Addr} {vl vu:Value} {t:Tok} {n:Nat} {Q:Int × Int × Nat → Shared → Prop} (hs:s.heap.IsSliceOf sl vl vu (.int (-1) t)) (pl:IsPart vl none) (pu:IsPart vu none)
  (h:Q ((n:Int) - 1,-1,n) s):wpAny (model P w) A (Builtin.Slice.sliceApplied (.ref sl) (pure (n:Int))) Q E s:=by
 obtain ⟨os,hos,hcs,hds⟩:=id hs
 unfold Builtin.Slice.sliceApplied Builtin.Slice.sliceFields
 refine wpAny_bind (wpAny_bind (wpAny_field hos hds (x:=vl) rfl (wpAny_bind (wpAny_field hos hds (x:=vu) rfl (wpAny_bind (wpAny_field hos hds (x:=.int (-1) t) rfl (wpAny_pure ?_)))))))
 refine wpAny_bind (HT.slicePart_ (.int (-1) t) ?_)
 show wpAny _ _ (if ((-1:Int) == 0) = true then _ else _) _ _ s
 rw [if_neg (by decide)]
 refine wpAny_bind (HT.slicePart_ pl (wpAny_bind (HT.slicePart_ pu (wpAny_bind (wpAny_pure ?_)))))
 have e1:Builtin.Slice.sliceAdjust none none (-1) (n:Int) = ((n:Int) - 1,-1):=rfl
 have e2:Builtin.Slice.slicePlaces ((n:Int) - 1) (-1) (-1) = n:=by
  unfold Builtin.Slice.slicePlaces
  rw [if_neg (by decide),show (-(-1:Int)) = 1 from rfl,Int.ediv_one]
  split <;> omega
 show wpAny _ _ (match Builtin.Slice.sliceAdjust none none (-1) (n:Int) with | (lo,hi)=>pure (lo,(-1:Int),Builtin.Slice.slicePlaces lo hi (-1))) _ _ s
 rw [e1]
 show wpAny _ _ (pure ((n:Int) - 1,(-1:Int),Builtin.Slice.slicePlaces ((n:Int) - 1) (-1) (-1))) _ _ s
 rw [e2]
 exact wpAny_pure h
theorem QdU {t sl:Addr} {its:List Value} {vl vu:Value} {tk:Tok} {Q:Value → Shared → Prop} (ht:IsTup s.heap t its.toArray) (hs:s.heap.IsSliceOf sl vl vu (.int (-1) tk)) (pl:IsPart vl none) (pu:IsPart vu none)
  (h:Q (.ref s.heap.objs.size) { s with heap:=s.heap.push { cls:=.type "tuple",data:=.seq its.reverse.toArray } })
  (hsz:its.length ≤ sizeLine):wpAny (model P w) A (getItem (.ref t) (.ref sl)) Q E s:=by
 have htake:sizeOk (.seq its.reverse.toArray):=by
  show its.reverse.toArray.size ≤ sizeLine
  rw [List.size_toArray,Xc]
  exact hsz
 obtain ⟨os,hos,hcs,hds⟩:=id hs
 have hTs:s.TypeIs (.ref sl) "slice":=⟨os,hos,hcs⟩
 unfold getItem
 try with_reducible refine wpAny_holding ?_
 first | refine wpAny_bind (wpAny_pure ?_) | skip
 refine wpAny_bind (wpAny_sequenceKey ht.typeIs (by decide) ?_)
 refine wpAny_bind (wpAny_callSpecial?_slot (name:=Str.ofString "__getitem__") ht.typeIs PyProof.Rows.slot_tuple_getitem
  (wpAny_call_entry PyProof.Rows.slot_tuple_getitem ht.typeIs entry_tuple_getitem ?_ (args_tuple_getitem _ _)))
 show wpAny _ _ (Builtin.Tuple.tupleItemsOf (.ref t) >>= _) _ _ s
 refine wpAny_bind (PyProof.Rows.tupleItemsOf_ ht ?_)
 refine wpAny_bind (wpAny_typeOf hTs ?_)
 rw [if_pos (by decide)]
 refine wpAny_bind (Qbm hs pl pu ?_)
 show wpAny _ _ (if (((its.toArray.size:Int) - 1) == 0 && (-1:Int) == 1 && (its.toArray.size == its.toArray.size)) = true then _ else _) _ _ s
 rw [show ((-1:Int) == 1) = false from rfl,Bool.and_false,Bool.false_and,if_neg X0]
 have ep:((Jj its.toArray.size).filterMap fun (m:Nat)=>its.toArray[((its.toArray.size:Int) - 1 + (m:Int) * (-1)).toNat]?).toArray = its.reverse.toArray:=by
  rw [List.size_toArray]
  have e:(fun (m:Nat)=>its.toArray[((its.length:Int) - 1 + (m:Int) * (-1)).toNat]?) = fun (m:Nat)=>its[((its.length:Int) - 1 + (m:Int) * (-1)).toNat]?:=by
   funext m
   simp
  rw [e,Qfk]
 rw [ep]
 first
  | exact wpAny_bind (m:=Builtin.Tuple.tupleExact _) (wpAny_newObj_type (wpAny_pure ⟨_,rfl,wpAny_pure h⟩) htake)
  | exact wpAny_bind (m:=Builtin.Tuple.tupleExact _) (wpAny_newObj_type (wpAny_bind (wpAny_pure (wpAny_pure ⟨_,rfl,wpAny_pure h⟩))) htake)
  | exact wpAny_bind (wpAny_bind (m:=Builtin.Tuple.tupleExact _) (wpAny_newObj_type (wpAny_pure (wpAny_pure ⟨_,rfl,wpAny_pure h⟩)) htake))
  | exact wpAny_bind (wpAny_bind (m:=Builtin.Tuple.tupleExact _) (wpAny_newObj_type (wpAny_pure ⟨_,rfl,wpAny_pure h⟩) htake))
end
section
variable {X:Cx}
def Qk7 (K:PySem.W.Frag) (te:TE):TE:=fun σ H Q=>te σ H fun x H1=>∃ a xs,x = .ref a ∧ SqT K H1 a xs ∧ ∀ p,H1 p = none → Q (.ref p) (upd H1 p (.tup xs.reverse))
theorem Qhq {e:Expr} {te:TE} {k:Nat} {p1 p2 p3 pos:Pos} (he:PE X e te):PE X (.Subscript e (.Slice none none (some (.UnaryOp .USub (.Constant (.int 1) k p1) p2)) p3) pos) (Qk7 X.K te):=by
 refine ⟨fun pins s σ H Q I h=>?_⟩
 refine Subscript_ (thn (he.run pins s σ H _ I h) fun v s1 ⟨x,H1,I1,r1,q1⟩=>?_)
 obtain ⟨a,xs,ex,hx,q⟩:=q1
 subst ex
 cases r1
 have hst:PO X (some (.UnaryOp .USub (.Constant (.int 1) k p1) p2)) (tPart (tUn (rU fun i=>.int (-i)) (tC (.int 1)))):=po_some (pe_un un_neg pe_int)
 refine wpAny_Slice (thn (po_none.run pins s1 σ H1 (fun o H2=>o = none ∧ H2 = H1) I1 ⟨rfl,rfl⟩) fun vl s2 ⟨l,H2,I2,pl,el,e2⟩=>?_)
 subst el e2
 refine thn (po_none.run pins s2 σ H2 (fun o H3=>o = none ∧ H3 = H2) I2 ⟨rfl,rfl⟩) fun vu s3 ⟨u,H3,I3,pu,eu,e3⟩=>?_
 subst eu e3
 refine thn (hst.run pins s3 σ H3 (fun o H4=>o = some (-1) ∧ H4 = H3) I3 ⟨1,rfl,-1,rfl,rfl,rfl⟩) fun vs s4 ⟨o,H4,I4,ps,eo,e4⟩=>?_
 subst eo e4
 cases ps with
 | int i t =>
 have I5:Inv X pins σ H4 { s4 with heap:=s4.heap.push { cls:=.type "slice",data:=.fields #[vl,vu,.int (-1) t] } }:=I4.kept (t':=s4.toks) fun b ob q=>Heap.get?_push_of_some _ q
 obtain ⟨its,r,ht,hz⟩:=I5.tuple hx
 have hlen:=r.length
 show wpAny (model X.prog X.w) X.A (subscriptTail e (.Slice none none (some (.UnaryOp .USub (.Constant (.int 1) k p1) p2)) p3) (.ref a) (.ref s4.heap.objs.size)) (EP X pins σ Q) X.xe { s4 with heap:=s4.heap.push { cls:=.type "slice",data:=.fields #[vl,vu,.int (-1) t] } }
 refine tail_any (ops:=[.ref a,.ref s4.heap.objs.size]) ht.typeIs (PyProof.Rows.slot_tuple_getitem.lookup) ?_ (by with_unfolding_all rfl)
 refine QdU ht (Heap.IsSliceOf.new _ vl vu (.int (-1) t)) pl pu ?_ (by omega)
 refine ⟨.ref _,_,I5.laid (t':=s4.toks) (o:=.tup xs.reverse) (fun b ob q=>Heap.get?_push_of_some _ q) (Jf _) ?_,rfl,q _ (I5.hok.fresh (Jf _))⟩
 exact ⟨by rw [Xc]; exact hz,_,r.reverse,IsTup.new _ _⟩
def Qko:D → Option D
 | .tuple ds=>some (.tuple ds.reverse)
 | _=>none
theorem QgF {e:Expr} {fe:List Sl → Option (D × List Sl)} {R M:List Nat} {k:Nat} {p1 p2 p3 pos:Pos} (he:EV X e fe R M):EV X (.Subscript e (.Slice none none (some (.UnaryOp .USub (.Constant (.int 1) k p1) p2)) p3) pos) (f1 Qko fe) [] M:=by
 obtain ⟨t,p,q⟩:=he
 refine ⟨_,Qhq p,fun Y F H δ σ A S z δ' e Q kk=>?_⟩
 obtain ⟨d,e1,e2⟩:=Q5B e
 refine q Y F H δ σ A S d δ' e1 _ fun v F1 H1 st S1 r1=>?_
 unfold Qko at e2
 split at e2
 ·cases e2
  obtain ⟨a,xs,rfl,h0,h1,h2⟩:=r1.tup S1
  exact ⟨a,xs,rfl,h1,fun c hc=>kk _ _ _ (Vj S1 st (Stp.laid S1 hc)) (S1.laid hc) (.inl (.tup (.inl (.inl upd_same)) (h2.reverse.mono (Stp.laid (M:=[]) S1 hc).f)))⟩
 ·cases e2
end
end Z
namespace PySem
open Sem (wp)
end PySem
namespace L2
open PySem PySem.Spec PyProof.Rows
end L2
namespace Z
open PySem PySem.Spec PyProof.Rows L2
variable {X:Cx}
end Z
namespace Z
open PySem PySem.Spec PyProof.Rows L2
variable {X:Cx} {pos:Pos}
def Q5v (T:Tt) (f:List Sl → Option (D × List Sl)):List Sl → Option Out:=fun δ=>(f δ).bind fun p=>match p.1 with
 | .list ds=>(Vy T ds p.2).map .nx
 | _=>none
theorem Qhs {io:Iom} {fr:Fr} {es:List Expr} {kk:Nat} {tpos:Pos} {e:Expr} {T:Tt} {f} {M:List Nat} {n:Nat} (hc:X.calm = true) (hT:∀ j ∈ tS T,io j = false) (h:EV X e f [] M) (hg:GsV X es T) (hn:(assignEach es X.env).length = n) (hlen:∀ ds δ δ',Vy T ds δ = some δ' → ds.length = n)
  (hst:(assignEach es X.env).findIdx? (·.1) = none:=by rfl) (hs:swapsWithSole [.Tuple es kk tpos] e pos.line X.env = pure false:=by rfl) (hw:swappedStores [.Tuple es kk tpos] e X.env = pure none:=by rfl)
  (h1:(assignEach [.Tuple es kk tpos] X.env).map (·.2) = [assign (.Tuple es kk tpos) X.env]:=by rfl):SV X io fr (.Assign [.Tuple es kk tpos] e pos) (Q5v T f):=by
 obtain ⟨t,p,q⟩:=h
 obtain ⟨g,pg,qg⟩:=hg
 refine ⟨_,ps_asg p (pg_unl hc pg hn hst) hs hw h1,fun Y F H δ σ A hY S o e D k=>?_⟩
 unfold Q5v at e
 cases e1:f δ with
 | none=>rw [e1] at e; cases e
 | some w =>
  obtain ⟨d,δ1⟩:=w
  rw [e1] at e
  simp only [Q1] at e
  split at e
  ·rename_i ds
   cases e2:Vy T ds δ1 with
   | none=>rw [e2] at e; cases e
   | some δ2 =>
    rw [e2] at e
    cases e
    refine q Y F H δ σ A S _ δ1 e1 _ fun v F1 H1 st S1 r=>?_
    obtain ⟨a,xs,rfl,h1,h2⟩:=r.listE S1
    refine ⟨a,xs,rfl,SqL.of (Q2S S1 _ _ h1),by rw [h2.length]; exact hlen _ _ _ e2,?_⟩
    exact qg Y F1 H1 δ1 σ A (fun j hj=>by rw [hY]; exact hT j hj) S1 xs _ δ2 h2 e2 _ fun σ' A' _ S2=>k _ F1 H1 A' st.f S2
  ·cases e
theorem QaS {io:Iom} {fr:Fr} {es:List Expr} {kk:Nat} {tpos:Pos} {e:Expr} {T:Tt} {f} {M:List Nat} (hc:X.calm = true) (hT:∀ j ∈ tS T,io j = false) (h:EV X e f [] M) (hg:GsV X es T) (hT2:∀ i,T ≠ .nm i:=by intro _ z; cases z) (ok:tOk T = true:=by rfl) (hn:(assignEach es X.env).length = tN T:=by rfl)
  (hst:(assignEach es X.env).findIdx? (·.1) = none:=by rfl) (hs:swapsWithSole [.Tuple es kk tpos] e pos.line X.env = pure false:=by rfl) (hw:swappedStores [.Tuple es kk tpos] e X.env = pure none:=by rfl)
  (h1:(assignEach [.Tuple es kk tpos] X.env).map (·.2) = [assign (.Tuple es kk tpos) X.env]:=by rfl):SV X io fr (.Assign [.Tuple es kk tpos] e pos) (Q5v T f) :=
 Qhs hc hT h hg hn (fun ds δ δ' e=>Qch T ds δ δ' hT2 ok e) hst hs hw h1
end Z
set_option exponentiation.threshold 4000
namespace Z
open PySem PySem.Spec PyProof.Rows L2
def Mk (m:Nat):Prop:=m = 7 ∨ m = 31 ∨ m = 127 ∨ m = 511 ∨ m = 2047
def orb (m:Nat):Nat → Nat → Nat → Nat
 | 0,_,acc=>acc
 | n + 1,x,acc=>orb m n ((x * 5 + 1) % (m + 1)) (acc ||| (1 <<< x))
theorem Q8N (m x:Nat):∀ k,lcgI m ((x * 5 + 1) % (m + 1)) k = lcgI m x (k + 1)
 | 0=>rfl
 | k + 1=>by
  show (lcgI m ((x * 5 + 1) % (m + 1)) k * 5 + 1) % (m + 1) = (lcgI m x (k + 1) * 5 + 1) % (m + 1)
  rw [Q8N m x k]
theorem Qds (m j:Nat):∀ (n x acc:Nat),(orb m n x acc).testBit j = true → acc.testBit j = true ∨ ∃ k,k < n ∧ lcgI m x k = j
 | 0,_,_,h=>.inl h
 | n + 1,x,acc,h=>by
  rcases Qds m j n _ _ h with q | ⟨k,hk,e⟩
  ·rw [Nat.testBit_or,Jg] at q
   rcases q with q | q
   ·exact .inl q
   ·rw [Nat.one_shiftLeft,Nat.testBit_two_pow] at q
    exact .inr ⟨0,Nat.succ_pos _,of_decide_eq_true q⟩
  ·rw [Q8N] at e
   exact .inr ⟨k + 1,Nat.succ_lt_succ hk,e⟩
theorem Qk9:(orb 7 8 0 0 == 2 ^ 8 - 1) = true:=by decide +kernel
theorem Qin:(orb 31 32 0 0 == 2 ^ 32 - 1) = true:=by decide +kernel
theorem QgM:(orb 127 128 0 0 == 2 ^ 128 - 1) = true:=by decide +kernel
theorem QgS:(orb 511 512 0 0 == 2 ^ 512 - 1) = true:=by decide +kernel
theorem Qex:(orb 2047 2048 0 0 == 2 ^ 2048 - 1) = true:=by decide +kernel
theorem Q3c {m j:Nat} (e:(orb m (m + 1) 0 0 == 2 ^ (m + 1) - 1) = true) (hj:j ≤ m):∃ k,k ≤ m ∧ lcgN m k = j:=by
 have e':=eq_of_beq e
 have b:(orb m (m + 1) 0 0).testBit j = true:=by
  rw [e',Nat.testBit_two_pow_sub_one]
  exact decide_eq_true (Nat.lt_succ_of_le hj)
 rcases Qds m j _ _ _ b with q | ⟨k,hk,q⟩
 ·simp at q
 ·refine ⟨k,Nat.le_of_lt_succ hk,?_⟩
  have:=lcgN_add m 0 k
  rw [Nat.zero_add] at this
  rw [← this]
  exact q
theorem Qde {m j:Nat} (hm:Mk m) (hj:j ≤ m):∃ k,k ≤ m ∧ lcgN m k = j:=by
 rcases hm with e | e | e | e | e
 ·subst e; exact Q3c Qk9 hj
 ·subst e; exact Q3c Qin hj
 ·subst e; exact Q3c QgM hj
 ·subst e; exact Q3c QgS hj
 ·subst e; exact Q3c Qex hj
theorem Qhy {m:Nat} (hm:Mk m):lcgN m (m + 1) = 0:=by
 rcases hm with e | e | e | e | e
 ·subst e; decide +kernel
 ·subst e; decide +kernel
 ·subst e; decide +kernel
 ·subst e; decide +kernel
 ·subst e; decide +kernel
theorem QaT {m:Nat} (hm:Mk m):∀ k,lcgN m (m + 1 + k) = lcgN m k
 | 0=>Qhy hm
 | k + 1=>by
  have ih:=QaT hm k
  show (lcgN m (m + 1 + k) * 5 + 1) % (m + 1) = _
  rw [ih]
  rfl
theorem Qe0 {m i j:Nat} (hm:Mk m) (hi:i ≤ m) (hj:j ≤ m):∃ k,k ≤ m ∧ lcgI m i k = j:=by
 obtain ⟨p,hp,ep⟩:=Qde hm hi
 obtain ⟨q,hq,eq⟩:=Qde hm hj
 subst ep
 by_cases c:p ≤ q
 ·refine ⟨q - p,by omega,?_⟩
  rw [lcgN_add,← eq]
  congr 1
  omega
 ·refine ⟨q + (m + 1) - p,by omega,?_⟩
  rw [lcgN_add,← eq,← QaT hm q]
  congr 1
  omega
theorem QbB {m:Nat} (hm:Mk m) (h:Int) {j:Nat} (hj:j ≤ m):∃ n,n ≤ m + 12 ∧ runI m (SetTable.bits h) n = j:=by
 obtain ⟨k,hk,e⟩:=Qe0 hm (runI_le m (SetTable.bits h) 12) hj
 refine ⟨12 + k,by omega,?_⟩
 rw [runI_tail (bits_lt h)]
 exact e
theorem QdL {m:Nat} (hm:Mk m) (h:Int) {j:Nat} (hj:j ≤ m):∃ k,k < 10 * SetTable.turns m ∧ way m h k = j:=by
 obtain ⟨n,hn,e⟩:=QbB hm h hj
 obtain ⟨k,hk,e2⟩:=run_nth m (SetTable.bits h) n
 have ht:n < SetTable.turns m:=by unfold SetTable.turns; omega
 refine ⟨k,by omega,?_⟩
 show (nth m _ k).j = j
 rw [e2]
 exact e
structure Tab (t:SetTable) (hs:List Int):Prop where
 ord:Ris t.place.toList
 nod:t.dummies = #[]
 siz:t.place.size = hs.length
 okm:Mk t.mask
 low:∀ x ∈ t.place.toList,x ≤ t.mask
 met:∀ (i:Nat) (h:Int) (j:Nat),hs[i]? = some h → t.place.toList[i]? = some j → ∃ k,way t.mask h k = j ∧ ∀ c,c < k → way t.mask h c ∈ t.place.toList
theorem Tab.len {t:SetTable} {hs:List Int} (T:Tab t hs):t.place.toList.length = hs.length:=T.siz
theorem Tab.gap {t:SetTable} {hs:List Int} (T:Tab t hs) (hl:hs.length ≤ t.mask) (h:Int):∃ G,G < 10 * SetTable.turns t.mask ∧ way t.mask h G ∉ t.place.toList ∧ ∀ c,c < G → way t.mask h c ∈ t.place.toList:=by
 obtain ⟨j,hj,out⟩:=st_missing t.place.toList (t.mask + 1) (by rw [T.len]; omega)
 obtain ⟨k,hk,e⟩:=QdL T.okm h (Nat.le_of_lt_succ hj)
 subst e
 obtain ⟨G,g1,g2,g3⟩:=st_least (p:=fun c=>way t.mask h c ∉ t.place.toList) k out
 exact ⟨G,by omega,g2,fun c hc=>Decidable.byContradiction fun z=>g3 c hc z⟩
end Z
namespace Z
open PySem PySem.Spec PyProof.Rows L2
section
variable {P:Program} {w:World} {A:Around} {E:Value → Shared → Prop} {s:Shared}
def Q8z (P:Program) (w:World) (n:Nat) (s:Shared) (v:Value):Prop:=∀ (A:Around) (E:Value → Shared → Prop) (Q:Bool → Shared → Prop),Q false s → wpAny (model P w) A (ofAClassStatement n v) Q E s
def Q46 (P:Program) (w:World) (n:Nat) (s:Shared) (v:Value):Prop:=∀ (A:Around) (E:Value → Shared → Prop) (Q:Bool → Shared → Prop),(∀ b,Q b s) → wpAny (model P w) A (hashByValue n v) Q E s
theorem Q8z.tup {n:Nat} {a:Addr} {o:Obj} {vs:Array Value} {m:Nat} (ho:s.heap.get? a = some o) (hc:o.cls = .type "tuple") (hd:o.data = .seq vs m) (hv:∀ v ∈ vs.toList,Q8z P w n s v):Q8z P w (n + 1) s (.ref a):=fun A E Q q=>by
 have ty:s.TypeIs (.ref a) "tuple":=⟨o,ho,hc⟩
 unfold ofAClassStatement
 refine wpAny_bind (wpAny_typeOf ty ?_)
 dsimp only
 have tt:(("tuple":String) == "tuple") = true:=by decide
 simp only [tt,if_true,Xa,Qx,if_false]
 try refine wpAny_bind (wpAny_pure ?_)
 try simp only [Xa,Qx,if_false]
 show wpAny (model P w) A (seqItems? (.ref a) >>= _) Q E s
 refine wpAny_bind (wpAny_seqItems ho hd ?_)
 dsimp only
 refine wpAny_bind ?_
 show wpAny (model P w) A (forIn vs _ _) _ E s
 rw [← Array.forIn_toList]
 refine wpAny_forIn_list _ (fun l b s'=>s' = s ∧ b.1 = none ∧ ∀ v ∈ l,Q8z P w n s v) _ (fun v l b s' h=>?_) (fun b s' h=>?_) _ _ ⟨rfl,rfl,hv⟩
 ·obtain ⟨rfl,h1,h2⟩:=h
  refine wpAny_bind (h2 v Q7 A E _ ?_)
  simp only [Qx,if_false]
  exact wpAny_pure ⟨rfl,rfl,fun u hu=>h2 u (Q6 _ hu)⟩
 ·obtain ⟨b1,b2⟩:=b
  obtain ⟨rfl,h1,_⟩:=h
  cases h1
  exact wpAny_pure q
theorem Q46.tup {n:Nat} {a:Addr} {o:Obj} {vs:Array Value} {m:Nat} (ho:s.heap.get? a = some o) (hc:o.cls = .type "tuple") (hd:o.data = .seq vs m) (hv:∀ v ∈ vs.toList,Q46 P w n s v):Q46 P w (n + 1) s (.ref a):=fun A E Q q=>by
 have ty:s.TypeIs (.ref a) "tuple":=⟨o,ho,hc⟩
 unfold hashByValue
 refine wpAny_bind (wpAny_specialOf ty F.slot_tuple_hash.lookup ?_)
 show wpAny (model P w) A (seqItems? (.ref a) >>= _) Q E s
 refine wpAny_bind (wpAny_seqItems ho hd ?_)
 refine wpAny_bind ?_
 show wpAny (model P w) A (forIn vs _ _) _ E s
 rw [← Array.forIn_toList]
 refine wpAny_forIn_list _ (fun l b s'=>s' = s ∧ b.1 = none ∧ ∀ v ∈ l,Q46 P w n s v) _ (fun v l b s' h=>?_) (fun b s' h=>?_) _ _ ⟨rfl,rfl,hv⟩
 ·obtain ⟨rfl,h1,h2⟩:=h
  refine wpAny_bind (h2 v Q7 A E _ fun r=>?_)
  cases r
  ·simp only [Bool.not_false,if_true]
   exact wpAny_pure (wpAny_pure (q _))
  ·simp only [Xa,Qx,if_false]
   exact wpAny_pure ⟨rfl,rfl,fun u hu=>h2 u (Q6 _ hu)⟩
 ·obtain ⟨b1,b2⟩:=b
  obtain ⟨rfl,h1,_⟩:=h
  cases h1
  exact wpAny_pure (q _)
mutual
theorem Qe4:∀ (k:NestedKey) (v:Value) (n:Nat) (s:Shared),NestedIs s.heap k v → k.depth ≤ n → Q8z P w n s v
 | .none,_,n,_,.none,_=>fun _ _ _ q=>by cases n <;> exact wpAny_pure q
 | .num _,_,n,_,.bool _,_=>fun _ _ _ q=>by cases n <;> exact wpAny_pure q
 | .num _,_,n,_,.int _ _,_=>fun _ _ _ q=>by cases n <;> exact wpAny_pure q
 | .text _,_,n,_,.text _ _,_=>fun _ _ _ q=>by cases n <;> exact wpAny_pure q
 | .tup ks,_,0,_,.tup _ _ _ _,hn=>absurd hn (by simp [NestedKey.depth])
 | .tup ks,_,n + 1,s,.tup ho hc hd hk,hn=>.tup ho hc hd (Q7W ks _ n s hk (by simp only [NestedKey.depth] at hn; omega))
theorem Q7W:∀ (ks:List NestedKey) (vs:List Value) (n:Nat) (s:Shared),NestedAll s.heap ks vs → NestedKey.depthAll ks ≤ n → ∀ v ∈ vs,Q8z P w n s v
 | [],_,_,_,.nil,_,v,hv=>by cases hv
 | k :: ks,_,n,s,.cons x y,hn,v,hv=>by
  simp only [NestedKey.depthAll] at hn
  rcases Qg.mp hv with e | e
  ·subst e
   exact Qe4 k _ n s x (by omega)
  ·exact Q7W ks _ n s y (by omega) v e
end
mutual
theorem Qbj:∀ (k:NestedKey) (v:Value) (n:Nat) (s:Shared),NestedIs s.heap k v → k.depth ≤ n → Q46 P w n s v
 | .none,_,n,_,.none,_=>fun _ _ _ q=>by cases n <;> exact wpAny_pure (q _)
 | .num _,_,n,_,.bool _,_=>fun _ _ _ q=>by cases n <;> exact wpAny_pure (q _)
 | .num _,_,n,_,.int _ _,_=>fun _ _ _ q=>by cases n <;> exact wpAny_pure (q _)
 | .text _,_,n,_,.text _ _,_=>fun _ _ _ q=>by cases n <;> exact wpAny_pure (q _)
 | .tup ks,_,0,_,.tup _ _ _ _,hn=>absurd hn (by simp [NestedKey.depth])
 | .tup ks,_,n + 1,s,.tup ho hc hd hk,hn=>.tup ho hc hd (Q5r ks _ n s hk (by simp only [NestedKey.depth] at hn; omega))
theorem Q5r:∀ (ks:List NestedKey) (vs:List Value) (n:Nat) (s:Shared),NestedAll s.heap ks vs → NestedKey.depthAll ks ≤ n → ∀ v ∈ vs,Q46 P w n s v
 | [],_,_,_,.nil,_,v,hv=>by cases hv
 | k :: ks,_,n,s,.cons x y,hn,v,hv=>by
  simp only [NestedKey.depthAll] at hn
  rcases Qg.mp hv with e | e
  ·subst e
   exact Qbj k _ n s x (by omega)
  ·exact Q5r ks _ n s y (by omega) v e
end
abbrev Kin (P:Program) (w:World) (h:Heap) (k:NestedKey) (b:Addr):Prop:=(nestedKind P w).is h k b
abbrev kh (w:World) (k:NestedKey):Int:=k.hash w
theorem Kin.keep {h h':Heap} {k:NestedKey} {b:Addr} (x:Kin P w h k b) (kp:∀ c o,h.get? c = some o → h'.get? c = some o):Kin P w h' k b:=⟨NestedIs.at (fun c o _ _ e _=>kp c o e) k _ x.1,x.2⟩
theorem Kin.same {h h':Heap} {k:NestedKey} {a b:Addr} {o:Obj} {es:Array (Int × Value)} {ep:Nat} {t:SetTable} (x:Kin P w h k b) (ho:h.get? a = some o) (hd:o.data = .set es ep t) (sb:Heap.SameBut a h h'):Kin P w h' k b :=
 ⟨NestedIs.at (fun c o' vs n e1 e2=>(sb.2 c fun z=>by subst z; rw [ho] at e1; cases e1; rw [hd] at e2; cases e2).trans e1) k _ x.1,x.2⟩
def rowK (w:World) (L:List (Addr × NestedKey)):List (Int × Value):=L.map fun p=>(kh w p.2,Value.ref p.1)
abbrev few1:Nat:=1200
structure Qfv (P:Program) (w:World) (h:Heap) (a:Addr) (L:List (Addr × NestedKey)) (es:Array (Int × Value)) (ep:Nat) (t:SetTable):Prop where
 ob:∃ o,h.get? a = some o ∧ o.ExactSet ∧ o.data = .set es ep t
 row:es.toList = rowK w L
 tab:Tab t (L.map fun p=>kh w p.2)
 one:(L.map (·.2)).Nodup
 key:∀ p ∈ L,Kin P w h p.2 p.1
 led:w.params.followText "set-order" = true ∨ t.led = true
 gap:L.length * 5 < t.mask * 3
 few:L.length < few1
variable {a:Addr} {L:List (Addr × NestedKey)} {es:Array (Int × Value)} {ep:Nat} {t:SetTable}
end
end Z
namespace Z
open PySem PySem.Spec PyProof.Rows L2
section
variable {P:Program} {w:World} {A:Around} {E:Value → Shared → Prop} {s:Shared}
variable {a:Addr} {L:List (Addr × NestedKey)} {es:Array (Int × Value)} {ep:Nat} {t:SetTable}
structure QjL (ks:List (Addr × NestedKey)) (i:Nat) (L:List (Addr × NestedKey)):Prop where
 from_:∀ p ∈ L,p ∈ ks.take i
 all_:∀ p ∈ ks.take i,p.2 ∈ L.map (·.2)
 len_:L.length ≤ i
theorem QjL.next {ks L L':List (Addr × NestedKey)} {i:Nat} {p:Addr × NestedKey} (g:QjL ks i L) (e:ks[i]? = some p) (h1:p.2 ∈ L.map (·.2) → L' = L) (h2:p.2 ∉ L.map (·.2) → L'.Perm (p :: L)):QjL ks (i + 1) L':=by
 have tk:=take_next e
 by_cases c:p.2 ∈ L.map (·.2)
 ·rw [h1 c]
  refine ⟨fun x hx=>by rw [tk]; exact Q9 _ (g.from_ x hx),fun x hx=>?_,Nat.le_succ_of_le g.len_⟩
  rw [tk] at hx
  rcases Qc.mp hx with z | z
  ·exact g.all_ x z
  ·rw [Qr] at z
   subst z
   exact c
 ·have pm:=h2 c
  refine ⟨fun x hx=>?_,fun x hx=>?_,by rw [pm.length_eq,Qh]; have:=g.len_; omega⟩
  ·rw [tk]
   rcases Qg.mp (pm.mem_iff.mp hx) with z | z
   ·subst z
    exact Qd _ (Qr.mpr rfl)
   ·exact Q9 _ (g.from_ x z)
  ·rw [(pm.map (·.2)).mem_iff,Qq]
   rw [tk] at hx
   rcases Qc.mp hx with z | z
   ·exact Q6 _ (g.all_ x z)
   ·rw [Qr] at z
    subst z
    exact Q7
theorem Qfv.keep {h h':Heap} (R:Qfv P w h a L es ep t) (ha:∀ o,h.get? a = some o → h'.get? a = some o) (hk:∀ p ∈ L,Kin P w h' p.2 p.1):Qfv P w h' a L es ep t:=by
 obtain ⟨⟨o,ho,z⟩,h2,h3,h4,_,h6,h7,h8⟩:=R
 exact ⟨⟨o,ha o ho,z⟩,h2,h3,h4,hk,h6,h7,h8⟩
end
end Z
namespace Z
open PySem PySem.Spec PyProof.Rows L2
mutual
def Q49:D → Option NestedKey
 | .none=>some .none
 | .int i=>some (.num i)
 | .str x=>some (.text x)
 | .tuple ds=>(Q2q ds).map .tup
 | _=>none
def Q2q:List D → Option (List NestedKey)
 | []=>some []
 | d :: r=>(Q49 d).bind fun k=>(Q2q r).map fun ks=>k :: ks
end
mutual
theorem Qdw:∀ (d:D) (k:NestedKey),Q49 d = some k → k.data = d
 | .none,_,h=>by cases h; rfl
 | .int i,_,h=>by cases h; rfl
 | .str i,_,h=>by cases h; rfl
 | .bool _,_,h=>by simp [Q49] at h
 | .list _,_,h=>by simp [Q49] at h
 | .dict _,_,h=>by simp [Q49] at h
 | .tuple ds,k,h=>by
  rw [Q49] at h
  cases e:Q2q ds with
  | none=>rw [e] at h; cases h
  | some ks =>
   rw [e] at h
   cases h
   rw [NestedKey.data,Q6m ds ks e]
theorem Q6m:∀ (ds:List D) (ks:List NestedKey),Q2q ds = some ks → NestedKey.datas ks = ds
 | [],_,h=>by cases h; rfl
 | d :: r,_,h=>by
  rw [Q2q] at h
  cases e:Q49 d with
  | none=>rw [e] at h; cases h
  | some k =>
   rw [e] at h
   cases e2:Q2q r with
   | none=>rw [e2] at h; cases h
   | some ks =>
    rw [e2] at h
    cases h
    rw [NestedKey.datas,Qdw d k e,Q6m r ks e2]
end
mutual
theorem Qe7 {h:Heap}:∀ (d:D) (k:NestedKey) (v:Value) (as:List Addr),Q49 d = some k → Reads h v d as → NestedIs h k v ∧ as = []
 | .none,_,_,_,e,r=>by cases e; cases r; exact ⟨.none,rfl⟩
 | .int i,_,_,_,e,r=>by cases e; cases r; exact ⟨.int _ _,rfl⟩
 | .str i,_,_,_,e,r=>by cases e; cases r; exact ⟨.text _ _,rfl⟩
 | .bool _,_,_,_,e,r=>by simp [Q49] at e
 | .list _,_,_,_,e,r=>by simp [Q49] at e
 | .dict _,_,_,_,e,r=>by simp [Q49] at e
 | .tuple ds,k,v,as,e,r=>by
  rw [Q49] at e
  cases e1:Q2q ds with
  | none=>rw [e1] at e; cases e
  | some ks =>
   rw [e1] at e
   cases e
   cases r with
   | tuple h1 h2 h3 h4 =>
    obtain ⟨q1,q2⟩:=Q7i ds ks _ as e1 h4
    exact ⟨.tup h1 h2 h3 q1,q2⟩
theorem Q7i {h:Heap}:∀ (ds:List D) (ks:List NestedKey) (vs:List Value) (as:List Addr),Q2q ds = some ks → ReadsAll h vs ds as → NestedAll h ks vs ∧ as = []
 | [],_,_,_,e,r=>by cases e; cases r; exact ⟨.nil,rfl⟩
 | d :: ds,ks,vs,as,e,r=>by
  rw [Q2q] at e
  cases e1:Q49 d with
  | none=>rw [e1] at e; cases e
  | some k =>
   rw [e1] at e
   cases e2:Q2q ds with
   | none=>rw [e2] at e; cases e
   | some ks' =>
    rw [e2] at e
    cases e
    cases r with
    | cons r1 r2 =>
     obtain ⟨q1,q2⟩:=Qe7 d k _ _ e1 r1
     obtain ⟨q3,q4⟩:=Q7i ds ks' _ _ e2 r2
     subst q2
     subst q4
     exact ⟨.cons q1 q3,rfl⟩
end
theorem QgC (l:List (Int ⊕ List Nat)):lexLt itemOrd l l = false:=lex_irrefl (O:=itemOrd) l
mutual
theorem Q8v:∀ (x y:D),PySem.W.alike x y = true → PySem.W.alike y x = true
 | .none,y,h=>by cases y <;> simp_all [PySem.W.alike]
 | .bool _,y,h=>by cases y <;> simp_all [PySem.W.alike]
 | .int _,y,h=>by cases y <;> simp_all [PySem.W.alike]
 | .str _,y,h=>by cases y <;> simp_all [PySem.W.alike]
 | .dict _,y,h=>by cases y <;> simp_all [PySem.W.alike]
 | .list xs,y,h=>by
  cases y with
  | list ys=>rw [PySem.W.alike] at h ⊢; exact Q4A xs ys h
  | _=>simp [PySem.W.alike] at h
 | .tuple xs,y,h=>by
  cases y with
  | tuple ys=>rw [PySem.W.alike] at h ⊢; exact Q4A xs ys h
  | _=>simp [PySem.W.alike] at h
theorem Q4A:∀ (xs ys:List D),PySem.W.alikeAll xs ys = true → PySem.W.alikeAll ys xs = true
 | [],[],_=>by simp [PySem.W.alikeAll]
 | [],_ :: _,_=>by simp [PySem.W.alikeAll]
 | _ :: _,[],_=>by simp [PySem.W.alikeAll]
 | x :: xs,y :: ys,h=>by
  rw [PySem.W.alikeAll,Q5] at h ⊢
  exact ⟨Q8v x y h.1,Q4A xs ys h.2⟩
end
theorem Qe3 {x y:D} (ha:PySem.W.alike x y = true) {l m:List (Int ⊕ List Nat)} (e:PySem.W.keyToks x ++ l = PySem.W.keyToks y ++ m):PySem.W.keyToks x = PySem.W.keyToks y:=by
 have hb:=Q8v x y ha
 cases c:Jm x y with
 | true=>exact (PySem.W.toks_eqv x y ha).1 c
 | false =>
  cases c2:Jm y x with
  | true=>exact ((PySem.W.toks_eqv y x hb).1 c2).symm
  | false =>
   have a:=(PySem.W.toks_eqv x y ha).2 c l m
   have b:=(PySem.W.toks_eqv y x hb).2 c2 m l
   rw [e,QgC] at a b
   exact lex_total (O:=itemOrd) _ _ a.symm b.symm
mutual
theorem Qep:∀ (x y:D),PySem.W.alike x y = true → PySem.W.keyToks x = PySem.W.keyToks y → x = y
 | .none,y,h,e=>by cases y <;> simp_all [PySem.W.alike]
 | .bool a,y,h,e=>by
  cases y with
  | bool b=>cases a <;> cases b <;> simp_all [PySem.W.keyToks]
  | _=>simp [PySem.W.alike] at h
 | .int a,y,h,e=>by
  cases y with
  | int b=>simp [PySem.W.keyToks] at e; rw [e]
  | _=>simp [PySem.W.alike] at h
 | .str a,y,h,e=>by
  cases y with
  | str b =>
   simp only [PySem.W.keyToks,Xd.injEq,Sum.inr.injEq,and_true] at e
   rw [PySem.W.str_of_cps e]
  | _=>simp [PySem.W.alike] at h
 | .dict _,y,h,e=>by simp [PySem.W.alike] at h
 | .list xs,y,h,e=>by
  cases y with
  | list ys =>
   rw [PySem.W.alike] at h
   rw [PySem.W.keyToks,PySem.W.keyToks] at e
   rw [Q5P xs ys h e]
  | _=>simp [PySem.W.alike] at h
 | .tuple xs,y,h,e=>by
  cases y with
  | tuple ys =>
   rw [PySem.W.alike] at h
   rw [PySem.W.keyToks,PySem.W.keyToks] at e
   rw [Q5P xs ys h e]
  | _=>simp [PySem.W.alike] at h
theorem Q5P:∀ (xs ys:List D),PySem.W.alikeAll xs ys = true → PySem.W.keyToksAll xs = PySem.W.keyToksAll ys → xs = ys
 | [],[],_,_=>rfl
 | [],y :: ys,_,e=>by simp [PySem.W.keyToksAll] at e
 | x :: xs,[],_,e=>by simp [PySem.W.keyToksAll] at e
 | x :: xs,y :: ys,h,e=>by
  rw [PySem.W.alikeAll,Q5] at h
  rw [PySem.W.keyToksAll,PySem.W.keyToksAll] at e
  have e1:PySem.W.keyToks x ++ PySem.W.keyToksAll xs = PySem.W.keyToks y ++ PySem.W.keyToksAll ys:=(Xd.inj e).2
  have e2:=Qe3 h.1 e1
  rw [e2] at e1
  rw [Qep x y h.1 e2,Q5P xs ys h.2 (List.append_cancel_left e1)]
end
section
variable {X:Cx}
def okB (ds:List D):Bool:=Q4J ds && ((ds.all fun d=>match d with | .tuple (_ :: _)=>true | _=>false) || (ds.all fun d=>match d with | .int _=>true | _=>false)) && ds.all (fun d=>decide (d.depth ≤ 8)) && (Q2q ds).isSome
end
end Z
namespace Z
open PySem PySem.Spec PyProof.Rows L2

end Z
namespace Z
open PySem PySem.Spec PyProof.Rows L2

end Z
namespace Z
open PySem PySem.Spec PyProof.Rows L2
mutual
theorem QdM:∀ k:NestedKey,Q49 k.data = some k
 | .none=>rfl
 | .num _=>rfl
 | .text _=>rfl
 | .tup ks=>by rw [NestedKey.data,Q49,Q6v ks]; rfl
theorem Q6v:∀ ks:List NestedKey,Q2q (NestedKey.datas ks) = some ks
 | []=>rfl
 | k :: ks=>by rw [NestedKey.datas,Q2q,QdM k,Q6v ks]; rfl
end
mutual
theorem QbH:∀ k:NestedKey,k.data.depth = k.depth
 | .none=>rfl
 | .num _=>rfl
 | .text _=>rfl
 | .tup ks=>by
  rw [NestedKey.data,X6,NestedKey.depth,Q6t ks]
theorem Q6t:∀ ks:List NestedKey,Jc (NestedKey.datas ks) = NestedKey.depthAll ks
 | []=>rfl
 | k :: ks=>by
  rw [NestedKey.datas,Jc,NestedKey.depthAll,QbH k,Q6t ks]
end

end Z
namespace Z
open PySem PySem.Spec PyProof.Rows L2

section
variable {X:Cx}

end
end Z
namespace Z
open PySem PySem.Spec PyProof.Rows L2

end Z
namespace Z
open PySem PySem.Spec PyProof.Rows L2


end Z
namespace Z
open PySem PySem.Spec PyProof.Rows L2

end Z
namespace Z
open PySem PySem.Spec PyProof.Rows L2

end Z
namespace Z
open PySem PySem.Spec PyProof.Rows L2


end Z
namespace Z
open PySem PySem.Spec PyProof.Rows L2


end Z
namespace Z
open PySem PySem.Spec PyProof.Rows L2

end Z
namespace Z
open PySem PySem.Spec PyProof.Rows L2


end Z
namespace Z
open PySem PySem.Spec PyProof.Rows L2
variable {X:Cx}
def Qdy:D → Option D
 | .tuple ds=>some (.tuple ds.reverse)
 | .list ds=>some (.list ds.reverse)
 | _=>none
theorem Qcs {e:Expr} {fe:List Sl → Option (D × List Sl)} {R M:List Nat} {k:Nat} {p1 p2 p3 pos:Pos} (he:EV X e fe R M):EV X (.Subscript e (.Slice none none (some (.UnaryOp .USub (.Constant (.int 1) k p1) p2)) p3) pos) (f1 Qdy fe) [] M:=by
 obtain ⟨t1,h1,q1⟩:=QgF (k:=k) (p1:=p1) (p2:=p2) (p3:=p3) (pos:=pos) he
 obtain ⟨t2,h2,q2⟩:=NV.ev (QhL (k:=k) (p1:=p1) (p2:=p2) (p3:=p3) (pos:=pos) he)
 refine ⟨_,QbJ h1 h2,fun Y F H δ σ A S z δ' e Q kk=>?_⟩
 obtain ⟨d,e1,e2⟩:=Q5B e
 unfold Qdy at e2
 split at e2
 ·refine .inl (q1 Y F H δ σ A S z δ' ?_ Q kk)
  unfold f1
  rw [e1,Q1]
  cases e2
  rfl
 ·refine .inr (q2 Y F H δ σ A S z δ' ?_ Q kk)
  unfold f1
  rw [e1,Q1]
  cases e2
  rfl
 ·cases e2
end Z
namespace PySem

end PySem
namespace PySem

end PySem
namespace Z
open PySem PySem.Spec PyProof.Rows L2

end Z
namespace Z
open PySem PySem.Spec PyProof.Rows L2

end Z
namespace Z
open PySem PySem.Spec PyProof.Rows L2
section
variable {X:Cx} {pins:List (Addr × Obj)} {σ:L2.St} {H G:Hp} {s:Shared}
mutual
theorem Rp.readsM (I:Inv X pins σ H s) (g:Same G H) (hm:H sysModules = none):∀ (d:D) (v:V) (u:Value),Rp X.K G v d → RelV v u → ∃ as,Reads s.heap u d as ∧ sysModules ∉ as
 | .none,_,_,h,r=>by
  cases h
  cases r
  exact ⟨_,Reads.none,Qu⟩
 | .bool b,_,_,h,r=>by
  cases h
  cases r
  exact ⟨_,Reads.bool b,Qu⟩
 | .int i,_,_,h,r=>by
  cases h
  obtain ⟨t,rfl⟩:=r
  exact ⟨_,Reads.int i t,Qu⟩
 | .str x,_,_,h,r=>by
  cases h
  obtain ⟨t,rfl⟩:=r
  exact ⟨_,Reads.str x t,Qu⟩
 | .list ds,_,_,h,r=>by
  cases h with
  | lst hs ha =>
   rename_i p xs
   cases r
   obtain ⟨its,rv,⟨o,n,ho,hc,_,hd⟩,_⟩:=I.list (SqL.of (g _ _ hs))
   obtain ⟨as,hr,hn⟩:=Rp.readsAllM I g hm ds _ its ha rv
   refine ⟨_,Reads.list ho hc hd hr,fun hz=>?_⟩
   rcases Qg.mp hz with hz | hz
   ·have:=g _ _ hs
    rw [← hz,hm] at this
    cases this
   ·exact hn hz
 | .tuple ds,_,_,h,r=>by
  cases h with
  | tup hs ha =>
   cases r
   obtain ⟨its,rv,⟨o,ho,hc,n,hd⟩,_⟩:=I.tuple (Same.sqt g hs)
   obtain ⟨as,hr,hn⟩:=Rp.readsAllM I g hm ds _ its ha rv
   exact ⟨_,Reads.tuple ho hc hd hr,hn⟩
 | .dict ds,_,_,h,r=>by
  cases h with
  | dic hs ha =>
   cases r
   obtain ⟨_,_,hsm,vs,rel,o,es,ep,ho,hx,hdat,_,hp,_⟩:=I.hok _ _ (g _ _ hs)
   obtain ⟨bs,h1,h2,hn⟩:=Rp.readsKvM I g hm ds _ vs es.toList ha rel hp
   refine ⟨_,Reads.dict ho hx.1 hdat h1 h2,fun hz=>?_⟩
   rcases Qg.mp hz with hz | hz
   ·have:=g _ _ hs
    rw [← hz,hm] at this
    cases this
   ·exact hn hz
theorem Rp.readsAllM (I:Inv X pins σ H s) (g:Same G H) (hm:H sysModules = none):∀ (ds:List D) (vs:List V) (us:List Value),Rps X.K G vs ds → Vals vs us → ∃ as,ReadsAll s.heap us ds as ∧ sysModules ∉ as
 | [],_,_,h,r=>by
  cases h
  cases r
  exact ⟨_,ReadsAll.nil,Qu⟩
 | d :: ds,_,_,h,r=>by
  cases h with
  | cons h1 h2 =>
   cases r with
   | cons r1 r2 =>
    obtain ⟨as,q1,m1⟩:=Rp.readsM I g hm d _ _ h1 r1
    obtain ⟨bs,q2,m2⟩:=Rp.readsAllM I g hm ds _ _ h2 r2
    exact ⟨_,ReadsAll.cons q1 q2,fun hz=>(Qc.mp hz).elim m1 m2⟩
theorem Rp.readsKvM (I:Inv X pins σ H s) (g:Same G H) (hm:H sysModules = none):∀ (ds:List (D × D)) (kvs:List (Key × V)) (vs:List (Key × Value)) (es:List DictEntry),RpK X.K G kvs ds → KV kvs vs → Pairs (mixKind X.prog X.w) es vs →
  ∃ bs,ReadsAll s.heap (es.map (·.key)) (ds.map (·.1)) [] ∧ ReadsAll s.heap (es.map (·.val)) (ds.map (·.2)) bs ∧ sysModules ∉ bs
 | [],_,_,_,h,r,p=>by
  cases h
  cases r
  cases p
  exact ⟨_,ReadsAll.nil,ReadsAll.nil,Qu⟩
 | (dk,dv) :: ds,_,_,_,h,r,p=>by
  cases h with
  | cons h1 h2 =>
   cases r with
   | cons r1 r2 =>
    rename_i q vs'
    obtain ⟨k',u⟩:=q
    obtain ⟨e1,r1⟩:=r1
    simp only at e1
    subst e1
    cases p with
    | cons p1 p2 p3 =>
     obtain ⟨as,q1,m1⟩:=Rp.readsM I g hm dv _ _ h1 r1
     obtain ⟨bs,q2,q3,m3⟩:=Rp.readsKvM I g hm ds _ _ _ h2 r2 p3
     refine ⟨as ++ bs,?_,?_,fun hz=>(Qc.mp hz).elim m1 m3⟩
     ·exact ReadsAll.cons (as:=[]) (bs:=[]) (Q7F p1) q2
     ·rw [Qq,p2]
      exact ReadsAll.cons q1 q3
end
end

end Z
namespace Z
open PySem PySem.Spec PyProof.Rows L2


end Z
namespace Z
open PySem PySem.Spec PyProof.Rows L2

end Z
namespace Z
open PySem PySem.Spec PyProof.Rows L2

end Z
namespace Z
open PySem PySem.Spec PyProof.Rows L2
def eLi {α:Type} (e:α → D) (xs:List α):D:=.list (xs.map e)
def eTu {α:Type} (e:α → D) (xs:List α):D:=.tuple (xs.map e)
def eP1 {α:Type} (a:α → D) (p:α):D:=.tuple [a p]
def eP2 {α β:Type} (a:α → D) (b:β → D) (p:α × β):D:=.tuple [a p.1,b p.2]
def eP3 {α β γ:Type} (a:α → D) (b:β → D) (c:γ → D) (p:α × β × γ):D:=.tuple [a p.1,b p.2.1,c p.2.2]
def eDi {α β:Type} (a:α → D) (b:β → D) (xs:List (α × β)):D:=.dict (xs.map fun p=>(a p.1,b p.2))
def eD (d:D):D:=d
structure Dk where
 cs:List Int
 m:Int
 n:Int
def sDk (k:Dk):Sl:=.dk k.cs k.m k.n
def Q2f {α β:Type} (v:α) (k:α → Option β):Option β:=k v
abbrev Fe:=List Sl → Option (D × List Sl)
abbrev Fb:=List Sl → Option (Bool × List Sl)
abbrev Fs:=List Sl → Option (List D × List Sl)
abbrev Fk:=List Sl → Option (List Ar × List Sl)
abbrev Fo:=List Sl → Option (Option Int × List Sl)
def VP (f:Fe) (δ:List Sl) (d:D):Prop:=f δ = some (d,δ)
def VN {α:Type} (f:Fe) (δ:List Sl) (o:Option α) (r:α → D × List Sl):Prop:=∀ a,o = some a → f δ = some (r a)
def AP (f:Fs) (δ:List Sl) (d:List D):Prop:=f δ = some (d,δ)
def AN {α:Type} (f:Fs) (δ:List Sl) (o:Option α) (r:α → List D × List Sl):Prop:=∀ a,o = some a → f δ = some (r a)
def TP (f:Fb) (δ:List Sl) (b:Bool):Prop:=f δ = some (b,δ)
def TN {α:Type} (f:Fb) (δ:List Sl) (o:Option α) (r:α → Bool × List Sl):Prop:=∀ a,o = some a → f δ = some (r a)
def KP (f:Fk) (δ:List Sl) (d:List Ar):Prop:=f δ = some (d,δ)
def KN {α:Type} (f:Fk) (δ:List Sl) (o:Option α) (r:α → List Ar × List Sl):Prop:=∀ a,o = some a → f δ = some (r a)
def OP (f:Fo) (δ:List Sl) (d:Option Int):Prop:=f δ = some (d,δ)
def ON {α:Type} (f:Fo) (δ:List Sl) (o:Option α) (r:α → Option Int × List Sl):Prop:=∀ a,o = some a → f δ = some (r a)
theorem V5 {α β:Type} {o:Option α} {k:α → Option β} {b:β} (h:o.bind k = some b):∃ a,o = some a ∧ k a = some b:=by
 cases o with
 | none=>cases h
 | some a=>exact ⟨a,rfl,h⟩
theorem Zw {α β:Type} {o:Option α} {k:α → β} {b:β} (h:o.map k = some b):∃ a,o = some a ∧ k a = b:=by
 cases o with
 | none=>cases h
 | some a=>exact ⟨a,rfl,by simpa using h⟩
section
variable {α β γ:Type} {δ δ1:List Sl} {d a b c z:D} {fa fb fc f:Fe} {o:Option α} {r:α → D × List Sl}
theorem Xh:VP (Xp d) δ d:=rfl
theorem Xi (i:Nat) (h:δ[i]? = some (.fz d):=by rfl):VP (Xr i) δ d:=by
 unfold VP Xr
 rw [h]
theorem Z2 (i:Nat) {ds:List D} (h:δ[i]? = some (.ow (.list ds)):=by rfl):VP (fRd i) δ (.list ds):=by
 unfold VP fRd
 rw [h]
theorem Q9H (i:Nat) {ds:List (D × D)} (h:δ[i]? = some (.lk ds):=by rfl):VP (fRd i) δ (.dict ds):=by
 unfold VP fRd
 rw [h]
theorem Qic (h:VP f δ a) (e:a = b):VP f δ b:=e ▸ h
theorem QaC {r':α → D × List Sl} (h:VN f δ o r) (e:∀ x,r x = r' x):VN f δ o r':=fun x hx=>(h x hx).trans (by rw [e])
theorem Q1r {m:α → β} {r':β → D × List Sl} (h:VN f δ o r) (e:∀ x,r x = r' (m x)):VN f δ (o.map m) r':=fun y hy=>by
 obtain ⟨x,hx,rfl⟩:=Zw hy
 exact (h x hx).trans (by rw [e])
theorem Q6z (h:VP f δ a) {v:β} {r':β → D × List Sl} (e:(a,δ) = r' v):VN f δ (some v) r':=fun y hy=>by
 cases hy
 exact (show f δ = some (a,δ) from h).trans (by rw [e])
theorem Q4w {q:Option β} {e:β → D} (h:VP f δ a) (hr:∀ v,q = some v → a = e v):VN f δ q (fun v=>(e v,δ)):=fun v hv=>by
 have:=hr v hv
 subst this
 exact h
theorem Xm:AP Yg δ []:=rfl
variable {fr:Fs} {ds:List D}
theorem Xl (ha:VP fa δ a) (hr:AP fr δ ds):AP (Xq fa fr) δ (a :: ds):=by
 unfold AP Xq
 rw [show fa δ = some (a,δ) from ha,Q1,show fr δ = some (ds,δ) from hr]
 rfl
theorem Yz {r:α → List D × List Sl} (ha:VP fa δ a) (hr:AN fr δ o r):AN (Xq fa fr) δ o (fun x=>(a :: (r x).1,(r x).2)):=fun x hx=>by
 unfold Xq
 rw [show fa δ = some (a,δ) from ha,Q1,hr x hx]
 rfl
theorem Y1 {ds:α → List D} (ha:VN fa δ o r) (hr:∀ x,AP fr (r x).2 (ds x)):AN (Xq fa fr) δ o (fun x=>((r x).1 :: ds x,(r x).2)):=fun x hx=>by
 unfold Xq
 rw [ha x hx,Q1,show fr (r x).2 = some (ds x,(r x).2) from hr x]
 rfl
theorem Wf {o':α → Option β} {r':α → β → List D × List Sl} (ha:VN fa δ o r) (hr:∀ x,AN fr (r x).2 (o' x) (r' x)):AN (Xq fa fr) δ (o.bind fun x=>(o' x).map fun y=>(x,y)) (fun p=>((r p.1).1 :: (r' p.1 p.2).1,(r' p.1 p.2).2)):=fun p hp=>by
 obtain ⟨x,hx,hp⟩:=V5 hp
 obtain ⟨y,hy,rfl⟩:=Zw hp
 unfold Xq
 rw [ha x hx,Q1,hr x y hy]
 rfl
variable {g:D → D → Option D}
theorem Yo (ha:VP fa δ a) (hb:VP fb δ b) (hz:g a b = some z):VP (f2 g fa fb) δ z:=by
 unfold VP f2
 rw [show fa δ = some (a,δ) from ha,Q1,show fb δ = some (b,δ) from hb,Q1,hz]
 rfl
theorem Yw {q:Option β} {e:β → D} (ha:VP fa δ a) (hb:VP fb δ b) (hz:∀ v,q = some v → g a b = some (e v)):VN (f2 g fa fb) δ q (fun v=>(e v,δ)):=fun v hv=>by
 unfold f2
 rw [show fa δ = some (a,δ) from ha,Q1,show fb δ = some (b,δ) from hb,Q1,hz v hv]
 rfl
theorem QkN:f2 g fa fb δ = fA (g2 g) (Xq fa (Xq fb Yg)) δ:=by
 unfold f2 fA Xq Yg
 cases fa δ with
 | none=>rfl
 | some p =>
  simp only [Q1]
  cases fb p.2 with
  | none=>rfl
  | some q=>rfl
variable {G:List D → Option D}
theorem Q0q (h:AP fr δ ds) (hz:G ds = some z):VP (fA G fr) δ z:=by
 unfold VP fA
 rw [show fr δ = some (ds,δ) from h,Q1,hz]
 rfl
theorem Q4k {q:Option β} {e:β → D} (h:AP fr δ ds) (hz:∀ v,q = some v → G ds = some (e v)):VN (fA G fr) δ q (fun v=>(e v,δ)):=fun v hv=>by
 unfold fA
 rw [show fr δ = some (ds,δ) from h,Q1,hz v hv]
 rfl
theorem Q9L {r:α → List D × List Sl} {z:α → D} (h:AN fr δ o r) (hz:∀ x,G (r x).1 = some (z x)):VN (fA G fr) δ o (fun x=>(z x,(r x).2)):=fun x hx=>by
 unfold fA
 rw [h x hx,Q1,hz x]
 rfl
theorem Q8u {r:α → List D × List Sl} {q:α → Option β} {e:α → β → D} (h:AN fr δ o r) (hz:∀ x v,q x = some v → G (r x).1 = some (e x v)):VN (fA G fr) δ (o.bind fun x=>(q x).map fun v=>(x,v)) (fun p=>(e p.1 p.2,(r p.1).2)):=fun p hp=>by
 obtain ⟨x,hx,hp⟩:=V5 hp
 obtain ⟨v,hv,rfl⟩:=Zw hp
 unfold fA
 rw [h x hx,Q1,hz x v hv]
 rfl
theorem Wz {r:α → List D × List Sl} {z:α → D} (h:AN (Xq fa (Xq fb Yg)) δ o r) (hz:∀ x,g2 g (r x).1 = some (z x)):VN (f2 g fa fb) δ o (fun x=>(z x,(r x).2)):=fun x hx=>QkN.trans (Q9L h hz x hx)
theorem V6 {r:α → List D × List Sl} {q:α → Option β} {e:α → β → D} (h:AN (Xq fa (Xq fb Yg)) δ o r) (hz:∀ x v,q x = some v → g2 g (r x).1 = some (e x v)):VN (f2 g fa fb) δ (o.bind fun x=>(q x).map fun v=>(x,v)) (fun p=>(e p.1 p.2,(r p.1).2)):=fun x hx=>QkN.trans (Q8u h hz x hx)
variable {u:D → Option D}
theorem Q88 (ha:VP fa δ a) (hz:u a = some z):VP (f1 u fa) δ z:=by
 unfold VP f1
 rw [show fa δ = some (a,δ) from ha,Q1,hz]
 rfl
theorem Qik {q:Option β} {e:β → D} (ha:VP fa δ a) (hz:∀ v,q = some v → u a = some (e v)):VN (f1 u fa) δ q (fun v=>(e v,δ)):=fun v hv=>by
 unfold f1
 rw [show fa δ = some (a,δ) from ha,Q1,hz v hv]
 rfl
theorem Q02 (h:AP fr δ ds) (hl:decide (ds.length ≤ 1000) = true:=by rfl):VP (Q0p fr) δ (.tuple ds):=by
 unfold VP Q0p
 rw [show fr δ = some (ds,δ) from h,Q1]
 exact if_pos (J3 (of_decide_eq_true hl) (by rw [sizeLine_eq]; omega))
theorem Q4G {r:α → List D × List Sl} (h:AN fr δ o r) (hl:∀ x,decide ((r x).1.length ≤ 1000) = true:=by intro _; rfl):VN (Q0p fr) δ o (fun x=>(.tuple (r x).1,(r x).2)):=fun x hx=>by
 unfold Q0p
 rw [h x hx,Q1]
 exact if_pos (J3 (of_decide_eq_true (hl x)) (by rw [sizeLine_eq]; omega))
theorem W3 (h:AP fr δ ds) (hl:decide (ds.length ≤ 1000) = true:=by rfl):VP (We fr) δ (.list ds):=by
 unfold VP We
 rw [show fr δ = some (ds,δ) from h,Q1]
 exact if_pos (J3 (of_decide_eq_true hl) (by rw [sizeLine_eq]; omega))
theorem Q1x {r:α → List D × List Sl} (h:AN fr δ o r) (hl:∀ x,decide ((r x).1.length ≤ 1000) = true:=by intro _; rfl):VN (We fr) δ o (fun x=>(.list (r x).1,(r x).2)):=fun x hx=>by
 unfold We
 rw [h x hx,Q1]
 exact if_pos (J3 (of_decide_eq_true (hl x)) (by rw [sizeLine_eq]; omega))
theorem Kt {b:Bool} (h:VP f δ (.bool b)):TP (fun δ=>toB (f δ)) δ b:=by
 unfold TP
 show toB (f δ) = _
 rw [show f δ = some (.bool b,δ) from h]
 rfl
theorem Q0b {b:α → Bool} (h:VN f δ o r) (hb:∀ x,(r x).1 = .bool (b x)):TN (fun δ=>toB (f δ)) δ o (fun x=>(b x,(r x).2)):=fun x hx=>by
 show toB (f δ) = _
 rw [h x hx,show r x = (.bool (b x),(r x).2) from by rw [← hb x]]
 rfl
variable {ga gb:Fb} {s t:Bool}
theorem Q9l (h:TP ga δ s):TP (Q1G ga) δ (!s):=by
 unfold TP Q1G
 rw [show ga δ = some (s,δ) from h]
 rfl
theorem Q0S {r:α → Bool × List Sl} (h:TN ga δ o r):TN (Q1G ga) δ o (fun x=>(!(r x).1,(r x).2)):=fun x hx=>by
 unfold Q1G
 rw [h x hx]
 rfl
theorem Q0w {m:α → β} {r:α → Bool × List Sl} {r':β → Bool × List Sl} (h:TN ga δ o r) (e:∀ x,r x = r' (m x)):TN ga δ (o.map m) r':=fun y hy=>by
 obtain ⟨x,hx,rfl⟩:=Zw hy
 exact (h x hx).trans (by rw [e])
theorem Q7J {r r':α → Bool × List Sl} (h:TN ga δ o r) (e:∀ x,r x = r' x):TN ga δ o r':=fun x hx=>(h x hx).trans (by rw [e])
theorem Q91 {o:Option β} {r:β → Bool × List Sl} {v:β} (h:TP ga δ s) (k:TN gb δ o r) (hv:r v = (false,δ)):TN (Q7Z ga gb) δ (if s then o else some v) r:=fun x hx=>by
 unfold Q7Z
 rw [show ga δ = some (s,δ) from h]
 cases s
 ·cases hx; exact congrArg some hv.symm
 ·exact k x hx
theorem Q68 {o:Option β} {r:β → Bool × List Sl} {v:β} (h:TP ga δ s) (k:TN gb δ o r) (hv:r v = (true,δ)):TN (gOr ga gb) δ (if s then some v else o) r:=fun x hx=>by
 unfold gOr
 rw [show ga δ = some (s,δ) from h]
 cases s
 ·exact k x hx
 ·cases hx; exact congrArg some hv.symm
theorem Qd6 {r:α → Bool × List Sl} {o':α → Option β} {r':β → Bool × List Sl} {b:α → Bool} {v:α → β} (h:TN ga δ o r) (hb:∀ x,(r x).1 = b x) (k:∀ x,TN gb (r x).2 (o' x) r') (hv:∀ x,r' (v x) = (false,(r x).2)):TN (Q7Z ga gb) δ (o.bind fun x=>if b x then o' x else some (v x)) r':=fun y hy=>by
 obtain ⟨x,hx,hy⟩:=V5 hy
 unfold Q7Z
 rw [h x hx,Q1,hb x]
 cases e:b x with
 | false=>rw [e] at hy; cases hy; exact congrArg some (hv x).symm
 | true=>rw [e] at hy; exact k x y hy
theorem Q4Q {r:α → Bool × List Sl} {o':α → Option β} {r':β → Bool × List Sl} {b:α → Bool} {v:α → β} (h:TN ga δ o r) (hb:∀ x,(r x).1 = b x) (k:∀ x,TN gb (r x).2 (o' x) r') (hv:∀ x,r' (v x) = (true,(r x).2)):TN (gOr ga gb) δ (o.bind fun x=>if b x then some (v x) else o' x) r':=fun y hy=>by
 obtain ⟨x,hx,hy⟩:=V5 hy
 unfold gOr
 rw [h x hx,Q1,hb x]
 cases e:b x with
 | true=>rw [e] at hy; cases hy; exact congrArg some (hv x).symm
 | false=>rw [e] at hy; exact k x y hy
theorem Q9B (h:VP fa δ (.bool s)) (k:VP fb δ (.bool t)):VP (Q7D fa fb) δ (.bool (s && t)):=by
 unfold VP Q7D
 rw [show fa δ = some (.bool s,δ) from h]
 cases s
 ·rfl
 ·exact k
theorem QeS (h:VP fa δ (.bool s)):VP (Qef fa) δ (.bool (!s)):=by
 unfold VP Qef
 rw [show fa δ = some (.bool s,δ) from h]
 rfl
theorem Qhx {o:Option β} {r:β → D × List Sl} {v:β} (h:VP fa δ (.bool s)) (k:VN fb δ o r) (hv:r v = (.bool false,δ)):VN (Q7D fa fb) δ (if s then o else some v) r:=fun x hx=>by
 unfold Q7D
 rw [show fa δ = some (.bool s,δ) from h]
 cases s
 ·cases hx; exact congrArg some hv.symm
 ·exact k x hx
theorem Qfj {e:β → D} {x y:β} (hc:TP ga δ s) (ha:VP fa δ (e x)) (hb:VP fb δ (e y)):VP (Q2n ga fa fb) δ (e (if s then x else y)):=by
 unfold VP Q2n
 rw [show ga δ = some (s,δ) from hc]
 cases s
 ·exact hb
 ·exact ha
theorem Qft {oa ob:Option β} {r:β → D × List Sl} (hc:TP ga δ s) (ha:VN fa δ oa r) (hb:VN fb δ ob r):VN (Q2n ga fa fb) δ (if s then oa else ob) r:=fun x hx=>by
 unfold Q2n
 rw [show ga δ = some (s,δ) from hc]
 cases s
 ·exact hb x hx
 ·exact ha x hx
theorem QcZ {r:α → Bool × List Sl} {oa ob:α → Option β} {r':β → D × List Sl} {b:α → Bool} (hc:TN ga δ o r) (hb:∀ x,(r x).1 = b x) (ha:∀ x,VN fa (r x).2 (oa x) r') (hb2:∀ x,VN fb (r x).2 (ob x) r'):VN (Q2n ga fa fb) δ (o.bind fun x=>if b x then oa x else ob x) r':=fun y hy=>by
 obtain ⟨x,hx,hy⟩:=V5 hy
 unfold Q2n
 rw [hc x hx,Q1,hb x]
 cases e:b x with
 | false=>rw [e] at hy; exact hb2 x y hy
 | true=>rw [e] at hy; exact ha x y hy
variable {h1 h2:D → D → Option D}
theorem Qbi (ha:VP fa δ a) (hb:VP fb δ b) (hc:VP fc δ c) (e1:h1 a b = some (.bool s)) (e2:h2 b c = some (.bool t)):VP (Q0u h1 h2 fa fb fc) δ (.bool (s && t)):=by
 unfold VP Q0u
 rw [show fa δ = some (a,δ) from ha,Q1,show fb δ = some (b,δ) from hb,Q1,e1,Q1]
 cases s
 ·rfl
 ·show (fc δ).bind _ = _
  rw [show fc δ = some (c,δ) from hc,Q1,e2]
  rfl
theorem Q7K {r:α → List D × List Sl} {a b c:α → D} {s t:α → Bool} (h:AN (Xq fa (Xq fb Yg)) δ o r) (hr:∀ x,(r x).1 = [a x,b x]) (hc:∀ x,VP fc (r x).2 (c x)) (e1:∀ x,h1 (a x) (b x) = some (.bool (s x))) (e2:∀ x,h2 (b x) (c x) = some (.bool (t x))):VN (Q0u h1 h2 fa fb fc) δ o (fun x=>(.bool (s x && t x),(r x).2)):=fun x hx=>by
 have q:=h x hx
 unfold Xq at q
 obtain ⟨p,e3,q⟩:=V5 q
 obtain ⟨p2,e4,q⟩:=Zw q
 unfold Yg at e4
 obtain ⟨p3,e5,e6⟩:=V5 e4
 obtain ⟨p4,e7,e8⟩:=Zw e6
 cases e7
 subst e8
 have e9:r x = (p.1 :: [p3.1],p3.2):=q.symm
 have e10:=hr x
 rw [e9] at e10
 have e11:p.1 = a x:=(Xd.inj e10).1
 have e12:p3.1 = b x:=(Xd.inj (Xd.inj e10).2).1
 have hc':=hc x
 rw [e9] at hc'
 have e13:(r x).2 = p3.2:=by rw [e9]
 unfold Q0u
 rw [e3,Q1,e5,Q1,e11,e12,e1 x,Q1]
 show _ = some (Qj (s x && t x),(r x).2)
 rw [e13]
 cases s x
 ·rfl
 ·show (fc p3.2).bind _ = _
  rw [show fc p3.2 = some (c x,p3.2) from hc',Q1,e2 x]
  rfl
end
end Z
namespace Z
open PySem PySem.Spec PyProof.Rows L2
section
variable {α β γ:Type} {δ δ1:List Sl} {d a b c z:D} {fa fb fc f:Fe} {o:Option α} {r:α → D × List Sl}
variable {fk:Fk} {as:List Ar}
theorem Y9:KP V2 δ []:=rfl
theorem Y3 (ha:VP fa δ a) (hr:KP fk δ as):KP (Y8 fa fk) δ (.d a :: as):=by
 unfold KP Y8
 rw [show fa δ = some (a,δ) from ha,Q1,show fk δ = some (as,δ) from hr]
 rfl
theorem Vn (i:Nat) (hr:KP fk δ as) (h:Q7q i δ = true:=by rfl):KP (kIo i fk) δ (.io i :: as):=by
 unfold KP kIo
 rw [if_pos h,show fk δ = some (as,δ) from hr]
 rfl
theorem Qd8 {r:α → List Ar × List Sl} (ha:VP fa δ a) (hr:KN fk δ o r):KN (Y8 fa fk) δ o (fun x=>(.d a :: (r x).1,(r x).2)):=fun x hx=>by
 unfold Y8
 rw [show fa δ = some (a,δ) from ha,Q1,hr x hx]
 rfl
theorem Q4C (i:Nat) {r:α → List Ar × List Sl} (hr:KN fk δ o r) (h:Q7q i δ = true:=by rfl):KN (kIo i fk) δ o (fun x=>(.io i :: (r x).1,(r x).2)):=fun x hx=>by
 unfold kIo
 rw [if_pos h,hr x hx]
 rfl
theorem Q2t {ds:α → List Ar} (ha:VN fa δ o r) (hr:∀ x,KP fk (r x).2 (ds x)):KN (Y8 fa fk) δ o (fun x=>(.d (r x).1 :: ds x,(r x).2)):=fun x hx=>by
 unfold Y8
 rw [ha x hx,Q1,show fk (r x).2 = some (ds x,(r x).2) from hr x]
 rfl
theorem Qbp {o':α → Option β} {r':α → β → List Ar × List Sl} (ha:VN fa δ o r) (hr:∀ x,KN fk (r x).2 (o' x) (r' x)):KN (Y8 fa fk) δ (o.bind fun x=>(o' x).map fun y=>(x,y)) (fun p=>(.d (r p.1).1 :: (r' p.1 p.2).1,(r' p.1 p.2).2)):=fun p hp=>by
 obtain ⟨x,hx,hp⟩:=V5 hp
 obtain ⟨y,hy,rfl⟩:=Zw hp
 unfold Y8
 rw [ha x hx,Q1,hr x y hy]
 rfl
variable {φ:Fe} {R:List Nat}
theorem Y7 {q:Option β} {dv:β → D} {outs:β → List Sl} (h:KP fk δ as) (hφ:∀ v,q = some v → φ (as.map (Q9h δ)) = some (dv v,outs v)) (ok:Q4q R δ as = true:=by rfl) (ho:∀ v,(Q0D R as (outs v) && (R.isEmpty || (true && noL (dv v)))) = true:=by intro _; rfl):VN (Yh R true φ fk) δ q (fun v=>(dv v,Kw as (outs v) δ)):=fun v hv=>by
 unfold Yh
 rw [show fk δ = some (as,δ) from h,Q1,if_pos ok,hφ v hv,Q1,if_pos (ho v)]
theorem K7 {r:α → List Ar × List Sl} {q:α → Option β} {dv:α → β → D} {outs:α → β → List Sl} (h:KN fk δ o r) (hφ:∀ x v,q x = some v → φ ((r x).1.map (Q9h (r x).2)) = some (dv x v,outs x v)) (ok:∀ x,Q4q R (r x).2 (r x).1 = true:=by intro _; rfl) (ho:∀ x v,(Q0D R (r x).1 (outs x v) && (R.isEmpty || (true && noL (dv x v)))) = true:=by intro _ _; rfl):VN (Yh R true φ fk) δ (o.bind fun x=>(q x).map fun v=>(x,v)) (fun p=>(dv p.1 p.2,Kw (r p.1).1 (outs p.1 p.2) (r p.1).2)):=fun p hp=>by
 obtain ⟨x,hx,hp⟩:=V5 hp
 obtain ⟨v,hv,rfl⟩:=Zw hp
 unfold Yh
 rw [h x hx,Q1,if_pos (ok x),hφ x v hv,Q1,if_pos (ho x v)]
theorem Qdu (i:Nat) {ds:List (D × D)} {es:α → List (D × D)} (k:VN f (δ.set i (.lk ds)) o r) (h:δ[i]? = some (.ow (.dict ds)):=by rfl) (h2:∀ x,(r x).2[i]? = some (.lk (es x)):=by intro _; rfl):VN (fLk i f) δ o (fun x=>((r x).1,(r x).2.set i (.ow (.dict (es x))))):=fun x hx=>by
 unfold fLk
 rw [h]
 show (f (δ.set i (.lk ds))).bind _ = _
 rw [k x hx,Q1,h2 x]
variable {fl fh:Fo} {lo hi:Option Int} {g3:D → Option Int → Option Int → Option D}
theorem Vc:OP Wa δ none:=rfl
theorem Yq {i:Int} (h:VP fa δ (.int i)):OP (Vd fa) δ (some i):=by
 unfold OP Vd
 rw [show fa δ = some (.int i,δ) from h]
 rfl
theorem QgT {i:α → Int} (h:VN fa δ o r) (hr:∀ x,(r x).1 = .int (i x)):ON (Vd fa) δ o (fun x=>(some (i x),(r x).2)):=fun x hx=>by
 unfold Vd
 rw [h x hx,show r x = (.int (i x),(r x).2) from by rw [← hr x]]
 rfl
theorem Q0d (ha:VP fa δ a) (hl:OP fl δ lo) (hh:OP fh δ hi) (hz:g3 a lo hi = some z):VP (f3 g3 fa fl fh) δ z:=by
 unfold VP f3
 rw [show fa δ = some (a,δ) from ha,Q1,show fl δ = some (lo,δ) from hl,Q1,show fh δ = some (hi,δ) from hh,Q1,hz]
 rfl
theorem Q6C {q:Option β} {e:β → D} (ha:VP fa δ a) (hl:OP fl δ lo) (hh:OP fh δ hi) (hz:∀ v,q = some v → g3 a lo hi = some (e v)):VN (f3 g3 fa fl fh) δ q (fun v=>(e v,δ)):=fun v hv=>by
 unfold f3
 rw [show fa δ = some (a,δ) from ha,Q1,show fl δ = some (lo,δ) from hl,Q1,show fh δ = some (hi,δ) from hh,Q1,hz v hv]
 rfl
theorem Qkh {r:α → Option Int × List Sl} {z:α → D} (ha:VP fa δ a) (hl:OP fl δ lo) (hh:ON fh δ o r) (hz:∀ x,g3 a lo (r x).1 = some (z x)):VN (f3 g3 fa fl fh) δ o (fun x=>(z x,(r x).2)):=fun x hx=>by
 unfold f3
 rw [show fa δ = some (a,δ) from ha,Q1,show fl δ = some (lo,δ) from hl,Q1,hh x hx,Q1,hz x]
 rfl
variable {fi fr:Fs} {ds:List D}
theorem Q2V (h:VP fa δ a) (hz:Kq a = some ds):AP (fIt fa) δ ds:=by
 unfold AP fIt
 rw [show fa δ = some (a,δ) from h,Q1,hz]
 rfl
theorem Q73 {z:α → List D} (h:VN fa δ o r) (hz:∀ x,Kq (r x).1 = some (z x)):AN (fIt fa) δ o (fun x=>(z x,(r x).2)):=fun x hx=>by
 unfold fIt
 rw [h x hx,Q1,hz x]
 rfl
theorem QfR {q:Option β} {z:β → List D} (h:VP fa δ a) (hz:∀ v,q = some v → Kq a = some (z v)):AN (fIt fa) δ q (fun v=>(z v,δ)):=fun v hv=>by
 unfold fIt
 rw [show fa δ = some (a,δ) from h,Q1,hz v hv]
 rfl
def Q3i (lo:Int) (n:Nat):List Int:=(Jj n).map fun i=>lo + (i:Nat)
theorem Q6Q (lo:Int) (n:Nat):Q47 lo n = (Q3i lo n).map Q0:=by
 unfold Q47 Q3i
 rw [Jb]
 rfl
def Q8g (j:Int):Option (List Int):=if Zx j then some (Q3i 0 j.toNat) else none
theorem Qdf {j:Int} (h:AP fr δ [.int j]) (hj:Zx j = true:=by decide):AP (Q4a fr) δ ((Q3i 0 j.toNat).map Q0):=by
 unfold AP Q4a
 rw [show fr δ = some ([.int j],δ) from h,Q1]
 show (if Zx j = true then some (Q47 0 j.toNat,δ) else none) = _
 rw [if_pos hj,Q6Q]
theorem Qgp {j:Int} (h:AP fr δ [.int j]):AN (Q4a fr) δ (Q8g j) (fun xs=>(xs.map Q0,δ)):=fun xs hx=>by
 unfold Q8g at hx
 unfold Q4a
 rw [show fr δ = some ([.int j],δ) from h,Q1]
 show (if Zx j = true then some (Q47 0 j.toNat,δ) else none) = _
 split at hx
 ·rename_i c; cases hx; rw [if_pos c,Q6Q]
 ·cases hx
theorem Q5I {r:α → List D × List Sl} {j:α → Int} (h:AN fr δ o r) (hr:∀ x,(r x).1 = [.int (j x)]):AN (Q4a fr) δ (o.bind fun x=>(Q8g (j x)).map fun xs=>(x,xs)) (fun p=>(p.2.map Q0,(r p.1).2)):=fun p hp=>by
 obtain ⟨x,hx,hp⟩:=V5 hp
 obtain ⟨v,hv,rfl⟩:=Zw hp
 unfold Q8g at hv
 unfold Q4a
 rw [h x hx,Q1]
 have e:r x = ([.int (j x)],(r x).2):=by rw [← hr x]
 rw [e]
 show (if Zx (j x) = true then some (Q47 0 (j x).toNat,(r x).2) else none) = _
 split at hv
 ·rename_i c; cases hv; rw [if_pos c,Q6Q]
 ·cases hv
def Q6w {τ:Type} (xs:List τ):List (Int × τ):=xs.zipIdx.map fun p=>((p.2:Int),p.1)
theorem Qaf {τ:Type} (e:τ → D) (xs:List τ):Q5g (xs.map e) = (Q6w xs).map (eP2 Q0 e):=by
 unfold Q5g Q6w
 rw [List.zipIdx_map,Jb,Jb]
 rfl
theorem QhD {τ:Type} {e:τ → D} {xs:List τ} (h:VP fa δ (eLi e xs)):AP (Q6E fa) δ ((Q6w xs).map (eP2 Q0 e)):=by
 unfold AP Q6E
 rw [show fa δ = some (.list (xs.map e),δ) from h,Q1]
 show some (Q5g (xs.map e),δ) = _
 rw [Qaf]
theorem Qgu {τ:Type} {e:τ → D} {xs:α → List τ} (h:VN fa δ o r) (hr:∀ x,(r x).1 = eLi e (xs x)):AN (Q6E fa) δ o (fun x=>((Q6w (xs x)).map (eP2 Q0 e),(r x).2)):=fun x hx=>by
 unfold Q6E
 rw [h x hx,Q1,show r x = (.list ((xs x).map e),(r x).2) from by rw [show (Jt ((xs x).map e)) = (r x).1 from (hr x).symm]]
 show some (Q5g ((xs x).map e),(r x).2) = _
 rw [Qaf]
theorem Vh (i:Nat) (h:decide (i < δ.length) = true:=by rfl):Vu (.nm i) d δ = some (δ.set i (.fz d)):=by
 unfold Vu
 exact if_pos (of_decide_eq_true h)
theorem Q0i:Vy .nil [] δ = some δ:=by unfold Vy; rfl
theorem Vi {T U:Tt} {δ2:List Sl} (h:Vu T d δ = some δ1) (k:Vy U ds δ1 = some δ2):Vy (.cons T U) (d :: ds) δ = some δ2:=by
 unfold Vy
 rw [h]
 exact k
theorem Q2y {T U:Tt} (h:Vy (.cons T U) ds δ = some δ1):Vu (.cons T U) (.tuple ds) δ = some δ1:=by
 unfold Vu
 exact h
variable {T:Tt} {vs:List Nat} {cc:Fb} {fe:Fe} {ι τ σ:Type} {e:ι → D} {e':τ → D} {xs:List ι}
def Q8r (f:ι → τ) (xs:List ι):Option (List τ):=if xs.length ≤ sizeLine then some (xs.map f) else none
def Q7d (c:ι → σ → Option (Bool × σ)) (f:ι → σ → Option (τ × σ)):List ι → σ → Option (List τ × σ)
 | [],s=>some ([],s)
 | x :: xs,s=>(c x s).bind fun p=>match p.1 with
  | true=>(f x p.2).bind fun q=>(Q7d c f xs q.2).map fun z=>(q.1 :: z.1,z.2)
  | false=>Q7d c f xs p.2
def mapM (f:ι → Option τ):List ι → Option (List τ)
 | []=>some []
 | x :: xs=>(f x).bind fun y=>(mapM f xs).map fun ys=>y :: ys
def Q1F (c:ι → Option Bool) (f:ι → Option τ):List ι → Option (List τ)
 | []=>some []
 | x :: xs=>(c x).bind fun b=>match b with
  | true=>(f x).bind fun y=>(Q1F c f xs).map fun ys=>y :: ys
  | false=>Q1F c f xs
def Q8m (f:ι → σ → Option (τ × σ)):List ι → σ → Option (List τ × σ)
 | [],s=>some ([],s)
 | x :: xs,s=>(f x s).bind fun q=>(Q8m f xs q.2).map fun z=>(q.1 :: z.1,z.2)
def K5 (xs:List ι) (o:Option τ):Option τ:=if xs.length ≤ sizeLine then o else none
theorem Q9J {cb:ι → Bool} {fb:ι → τ} {δb:ι → List Sl} (hT:∀ x,Vu T (e x) δ = some (δb x)) (hc:∀ x,TP cc (δb x) (cb x)) (hf:∀ x,VP fe (δb x) (e' (fb x))) (hw:∀ x,Vo vs (δb x) = δ):∀ xs:List ι,Q0m T vs cc fe (xs.map e) δ = some (((xs.filter cb).map fb).map e',δ)
 | []=>rfl
 | x :: xs=>by
  rw [Qq]
  unfold Q0m
  rw [hT x,Q1,show cc (δb x) = some (cb x,δb x) from hc x,Q1,List.filter_cons]
  cases cb x
  ·show Q0m T vs cc fe (xs.map e) (Vo vs (δb x)) = _
   rw [hw x]
   exact Q9J hT hc hf hw xs
  ·show (fe (δb x)).bind _ = _
   rw [show fe (δb x) = some (e' (fb x),δb x) from hf x,Q1,hw x,Q9J hT hc hf hw xs]
   rfl
theorem Qc4 {fb:ι → τ} {δb:ι → List Sl} (hi:AP fi δ (xs.map e)) (hT:∀ x,Vu T (e x) δ = some (δb x)) (hf:∀ x,VP fe (δb x) (e' (fb x))) (hw:∀ x,Vo vs (δb x) = δ:=by intro _; rfl) (hn:noS vs δ = true:=by rfl):VN (fLc T vs fi Q0C fe) δ (Q8r fb xs) (fun ys=>(eLi e' ys,δ)):=fun ys hy=>by
 have q:=Q9J (cc:=Q0C) (cb:=fun _=>true) hT (fun _=>rfl) hf hw xs
 unfold Q8r at hy
 split at hy
 ·rename_i c
  cases hy
  unfold fLc
  rw [show fi δ = some (xs.map e,δ) from hi,Q1,if_pos (by rw [hn,Q4,decide_eq_true c]; rfl),q,List.filter_eq_self.mpr (fun _ _=>rfl)]
  rfl
 ·cases hy
theorem Q93 {st:σ → List Sl} {cN:ι → σ → Option (Bool × σ)} {fN:ι → σ → Option (τ × σ)} {δb δc:ι → σ → List Sl} (hT:∀ x s,Vu T (e x) (st s) = some (δb x s)) (hc:∀ x s,TN cc (δb x s) (cN x s) (fun p=>(p.1,δc x p.2))) (hf:∀ x s,VN fe (δc x s) (fN x s) (fun q=>(e' q.1,δc x q.2))) (hw:∀ x s,Vo vs (δc x s) = st s):∀ (xs:List ι) (s:σ) (z:List τ × σ),Q7d cN fN xs s = some z → Q0m T vs cc fe (xs.map e) (st s) = some (z.1.map e',st z.2)
 | [],s,z,h=>by cases h; rfl
 | x :: xs,s,z,h=>by
  unfold Q7d at h
  obtain ⟨p,hp,h⟩:=V5 h
  rw [Qq]
  unfold Q0m
  rw [hT x s,Q1,hc x s p hp,Q1]
  obtain ⟨b,s1⟩:=p
  cases b
  ·show Q0m T vs cc fe (xs.map e) (Vo vs (δc x s1)) = _
   rw [hw]
   exact Q93 hT hc hf hw xs s1 z h
  ·obtain ⟨q,hq,h⟩:=V5 h
   obtain ⟨w,hw2,rfl⟩:=Zw h
   show (fe (δc x s1)).bind _ = _
   rw [hf x s1 q hq,Q1]
   show (Q0m T vs cc fe (xs.map e) (Vo vs (δc x q.2))).map _ = _
   rw [hw,Q93 hT hc hf hw xs q.2 w hw2]
   rfl
theorem QiS {st:σ → List Sl} {s0:σ} {cN:ι → σ → Option (Bool × σ)} {fN:ι → σ → Option (τ × σ)} {δb δc:ι → σ → List Sl} (hi:AP fi δ (xs.map e)) (hT:∀ x s,Vu T (e x) (st s) = some (δb x s)) (hc:∀ x s,TN cc (δb x s) (cN x s) (fun p=>(p.1,δc x p.2))) (hf:∀ x s,VN fe (δc x s) (fN x s) (fun q=>(e' q.1,δc x q.2))) (h0:δ = st s0:=by rfl) (hw:∀ x s,Vo vs (δc x s) = st s:=by intro _ _; rfl) (hn:noS vs δ = true:=by rfl):VN (fLc T vs fi cc fe) δ (K5 xs (Q7d cN fN xs s0)) (fun z=>(eLi e' z.1,st z.2)):=fun z hz=>by
 unfold K5 at hz
 split at hz
 ·rename_i c
  unfold fLc
  rw [show fi δ = some (xs.map e,δ) from hi,Q1,if_pos (by rw [hn,Q4,decide_eq_true c]; rfl)]
  subst h0
  rw [Q93 hT hc hf hw xs s0 z hz]
  rfl
 ·cases hz
theorem Q8S {fN:ι → σ → Option (τ × σ)}:∀ (xs:List ι) (s:σ),Q7d (fun _ s=>some (true,s)) fN xs s = Q8m fN xs s
 | [],s=>rfl
 | x :: xs,s=>by
  unfold Q7d Q8m
  simp only [Q1]
  exact congrArg _ (funext fun q=>by rw [Q8S])
theorem Q6T {st:σ → List Sl} {s0:σ} {fN:ι → σ → Option (τ × σ)} {δb:ι → σ → List Sl} (hi:AP fi δ (xs.map e)) (hT:∀ x s,Vu T (e x) (st s) = some (δb x s)) (hf:∀ x s,VN fe (δb x s) (fN x s) (fun q=>(e' q.1,δb x q.2))) (h0:δ = st s0:=by rfl) (hw:∀ x s,Vo vs (δb x s) = st s:=by intro _ _; rfl) (hn:noS vs δ = true:=by rfl):VN (fLc T vs fi Q0C fe) δ (K5 xs (Q8m fN xs s0)) (fun z=>(eLi e' z.1,st z.2)):=by
 rw [← Q8S]
 exact QiS (cc:=Q0C) (δb:=δb) (δc:=δb) hi hT (fun x s p hp=>by cases hp; rfl) hf h0 hw hn
theorem Qa1 {cN:ι → Option Bool} {fN:ι → Option τ} {δb:ι → List Sl} (hT:∀ x,Vu T (e x) δ = some (δb x)) (hc:∀ x,TN cc (δb x) (cN x) (fun p=>(p,δb x))) (hf:∀ x,VN fe (δb x) (fN x) (fun q=>(e' q,δb x))) (hw:∀ x,Vo vs (δb x) = δ):∀ (xs:List ι) (z:List τ),Q1F cN fN xs = some z → Q0m T vs cc fe (xs.map e) δ = some (z.map e',δ)
 | [],z,h=>by cases h; rfl
 | x :: xs,z,h=>by
  unfold Q1F at h
  obtain ⟨b,hb,h⟩:=V5 h
  rw [Qq]
  unfold Q0m
  rw [hT x,Q1,hc x b hb,Q1]
  cases b
  ·show Q0m T vs cc fe (xs.map e) (Vo vs (δb x)) = _
   rw [hw]
   exact Qa1 hT hc hf hw xs z h
  ·obtain ⟨q,hq,h⟩:=V5 h
   obtain ⟨w,hw2,rfl⟩:=Zw h
   show (fe (δb x)).bind _ = _
   rw [hf x q hq,Q1]
   show (Q0m T vs cc fe (xs.map e) (Vo vs (δb x))).map _ = _
   rw [hw,Qa1 hT hc hf hw xs w hw2]
   rfl
theorem Q5X {cN:ι → Option Bool} {fN:ι → Option τ} {δb:ι → List Sl} (hi:AP fi δ (xs.map e)) (hT:∀ x,Vu T (e x) δ = some (δb x)) (hc:∀ x,TN cc (δb x) (cN x) (fun p=>(p,δb x))) (hf:∀ x,VN fe (δb x) (fN x) (fun q=>(e' q,δb x))) (hw:∀ x,Vo vs (δb x) = δ:=by intro _; rfl) (hn:noS vs δ = true:=by rfl):VN (fLc T vs fi cc fe) δ (K5 xs (Q1F cN fN xs)) (fun z=>(eLi e' z,δ)):=fun z hz=>by
 unfold K5 at hz
 split at hz
 ·rename_i c
  unfold fLc
  rw [show fi δ = some (xs.map e,δ) from hi,Q1,if_pos (by rw [hn,Q4,decide_eq_true c]; rfl),Qa1 hT hc hf hw xs z hz]
  rfl
 ·cases hz
theorem QaE {fN:ι → Option τ}:∀ (xs:List ι),Q1F (fun _=>some true) fN xs = mapM fN xs
 | []=>rfl
 | x :: xs=>by
  unfold Q1F mapM
  simp only [Q1]
  exact congrArg _ (funext fun q=>by rw [QaE])
theorem Q3Y {fN:ι → Option τ} {δb:ι → List Sl} (hi:AP fi δ (xs.map e)) (hT:∀ x,Vu T (e x) δ = some (δb x)) (hf:∀ x,VN fe (δb x) (fN x) (fun q=>(e' q,δb x))) (hw:∀ x,Vo vs (δb x) = δ:=by intro _; rfl) (hn:noS vs δ = true:=by rfl):VN (fLc T vs fi Q0C fe) δ (K5 xs (mapM fN xs)) (fun z=>(eLi e' z,δ)):=by
 rw [← QaE]
 exact Q5X (cc:=Q0C) (δb:=δb) hi hT (fun x p hp=>by cases hp; rfl) hf hw hn
theorem Q4B {r:α → List D × List Sl} {o':α → Option β} {r':α → β → D × List Sl} (hi:AN fi δ o r) (h:∀ x,VN (fLc T vs (fun δ=>some ((r x).1,δ)) cc fe) (r x).2 (o' x) (r' x)):VN (fLc T vs fi cc fe) δ (o.bind fun x=>(o' x).map fun y=>(x,y)) (fun p=>r' p.1 p.2):=fun p hp=>by
 obtain ⟨x,hx,hp⟩:=V5 hp
 obtain ⟨y,hy,rfl⟩:=Zw hp
 have:=h x y hy
 unfold fLc at this ⊢
 rw [Q1] at this
 rw [hi x hx,Q1]
 exact this
theorem Q1A:AP (fun δ=>some (ds,δ)) δ ds:=rfl
end
end Z
namespace Z
open PySem PySem.Spec PyProof.Rows L2
abbrev Fg:=List Sl → Option Out
inductive Oc where
 | nx (δ:List Sl)
 | lp (δ:List Sl)
 | rt (d:D) (outs:List Sl)
def OcR (as:List Sl → Option (List Sl)) (x:Option Out):Oc → Prop
 | .nx δ'=>x = some (.nx δ')
 | .lp δ'=>x = some (.nx δ') ∨ x = some (.ct δ')
 | .rt d outs=>∃ δ',x = some (.rt d δ') ∧ as δ' = some outs
def SB {α:Type} (as:List Sl → Option (List Sl)) (g:Fg) (δ:List Sl) (o:Option α) (r:α → Oc):Prop:=∀ a,o = some a → OcR as (g δ) (r a)
section
variable {α β γ σ ρ:Type} {as:List Sl → Option (List Sl)} {δ δ1:List Sl} {d a b c z:D} {fa fb fc f:Fe} {o:Option β} {g g' ga gb:Fg} {r:β → Oc} {oe:Option α} {re:α → D × List Sl} {ok:α → Option β}
theorem Wv (h:g δ = some (.nx δ1)):Xu g g' δ = g' δ1:=by
 unfold Xu
 rw [h]
 rfl
theorem Q7g {i:Nat} (h:VP f δ d) (k:SB as g' (δ.set i (.fz d)) o r) (hi:decide (i < δ.length) = true:=by rfl):SB as (Xu (Vs i f) g') δ o r:=fun v hv=>by
 rw [Wv (δ1:=δ.set i (.fz d))]
 ·exact k v hv
 ·unfold Vs
  rw [show f δ = some (d,δ) from h]
  exact if_pos (of_decide_eq_true hi)
theorem Q3V {i:Nat} {e:α → D} {v:α} (h:VP f δ (e v)) (k:∀ x,SB as g' (δ.set i (.fz (e x))) (ok x) r) (hi:decide (i < δ.length) = true:=by rfl):SB as (Xu (Vs i f) g') δ (Q2f v ok) r:=Q7g h (k v) hi
theorem Vk {i:Nat} (h:VN f δ oe re) (k:∀ x,SB as g' ((re x).2.set i (.fz (re x).1)) (ok x) r) (hi:∀ x,decide (i < (re x).2.length) = true:=by intro _; rfl):SB as (Xu (Vs i f) g') δ (oe.bind ok) r:=fun v hv=>by
 obtain ⟨x,hx,hv⟩:=V5 hv
 rw [Wv (δ1:=(re x).2.set i (.fz (re x).1))]
 ·exact k x v hv
 ·unfold Vs
  rw [h x hx]
  exact if_pos (of_decide_eq_true (hi x))
theorem Q2E {i:Nat} {e:γ → D} {m:α → γ} {ok:α → γ → Option β} (h:VN f δ oe re) (hm:∀ x,(re x).1 = e (m x)) (k:∀ x y,SB as g' ((re x).2.set i (.fz (e y))) (ok x y) r) (hi:∀ x,decide (i < (re x).2.length) = true:=by intro _; rfl):SB as (Xu (Vs i f) g') δ (oe.bind fun x=>Q2f (m x) fun y=>ok x y) r :=
 Vk h (fun x=>by rw [hm x]; exact k x (m x)) hi
theorem Qcc {i:Nat} (h:VP f δ d) (k:SB as g' (δ.set i (.ow d)) o r) (hi:decide (i < δ.length) = true:=by rfl):SB as (Xu (Q1c i f) g') δ o r:=fun v hv=>by
 rw [Wv (δ1:=δ.set i (.ow d))]
 ·exact k v hv
 ·unfold Q1c
  rw [show f δ = some (d,δ) from h]
  exact if_pos (of_decide_eq_true hi)
theorem QcU {i:Nat} {e:α → D} {v:α} (h:VP f δ (e v)) (k:∀ x,SB as g' (δ.set i (.ow (e x))) (ok x) r) (hi:decide (i < δ.length) = true:=by rfl):SB as (Xu (Q1c i f) g') δ (Q2f v ok) r:=Qcc h (k v) hi
theorem Q1R {i:Nat} (h:VN f δ oe re) (k:∀ x,SB as g' ((re x).2.set i (.ow (re x).1)) (ok x) r) (hi:∀ x,decide (i < (re x).2.length) = true:=by intro _; rfl):SB as (Xu (Q1c i f) g') δ (oe.bind ok) r:=fun v hv=>by
 obtain ⟨x,hx,hv⟩:=V5 hv
 rw [Wv (δ1:=(re x).2.set i (.ow (re x).1))]
 ·exact k x v hv
 ·unfold Q1c
  rw [h x hx]
  exact if_pos (of_decide_eq_true (hi x))
theorem Qc8 (h:VN f δ oe re) (k:∀ x,SB as g' (re x).2 (ok x) r):SB as (Xu (Q7I f) g') δ (oe.bind ok) r:=fun v hv=>by
 obtain ⟨x,hx,hv⟩:=V5 hv
 rw [Wv (δ1:=(re x).2)]
 ·exact k x v hv
 ·unfold Q7I
  rw [h x hx]
  rfl
variable {T:Tt} {fs:Fs} {ds:List D}
theorem Qj4 (h:VP f δ d) (hb:Vu T d δ = some δ1) (k:SB as g' δ1 o r):SB as (Xu (Q7E T f) g') δ o r:=fun v hv=>by
 rw [Wv (δ1:=δ1)]
 ·exact k v hv
 ·unfold Q7E
  rw [show f δ = some (d,δ) from h,Q1,hb]
  rfl
theorem Q6I {δx:α → List Sl} (h:VN f δ oe re) (hb:∀ x,Vu T (re x).1 (re x).2 = some (δx x)) (k:∀ x,SB as g' (δx x) (ok x) r):SB as (Xu (Q7E T f) g') δ (oe.bind ok) r:=fun v hv=>by
 obtain ⟨x,hx,hv⟩:=V5 hv
 rw [Wv (δ1:=δx x)]
 ·exact k x v hv
 ·unfold Q7E
  rw [h x hx,Q1,hb x]
  rfl
theorem Q84 {i j:Nat} {rs:α → List D × List Sl} {a b:α → D} (h:AN fs δ oe rs) (hr:∀ x,(rs x).1 = [a x,b x]) (k:∀ x,SB as g' (((rs x).2.set i (.fz (a x))).set j (.fz (b x))) (ok x) r) (hi:∀ x,decide (i < (rs x).2.length ∧ j < (rs x).2.length) = true:=by intro _; rfl):SB as (Xu (Q7x i j fs) g') δ (oe.bind ok) r:=fun v hv=>by
 obtain ⟨x,hx,hv⟩:=V5 hv
 rw [Wv (δ1:=((rs x).2.set i (.fz (a x))).set j (.fz (b x)))]
 ·exact k x v hv
 ·unfold Q7x
  rw [h x hx,show rs x = ([a x,b x],(rs x).2) from by rw [← hr x]]
  exact if_pos (of_decide_eq_true (hi x))
theorem Q4I {i:Nat} {w kk:D} {q:Option α} {e:α → D} (hv:VP fb δ w) (hk:VP fa δ kk) (hd:δ[i]? = some (.ow d)) (hz:∀ v,q = some v → Q7c d kk w = some (e v)) (k:∀ x,SB as g' (δ.set i (.ow (e x))) (ok x) r):SB as (Xu (Q2i i fa fb) g') δ (q.bind ok) r:=fun v hv'=>by
 obtain ⟨x,hx,hv'⟩:=V5 hv'
 have ho:Q50 i δ = some d:=by unfold Q50; rw [hd]
 rw [Wv (δ1:=δ.set i (.ow (e x)))]
 ·exact k x v hv'
 ·unfold Q2i
  rw [show fb δ = some (w,δ) from hv,Q1,ho,Q1,show fa δ = some (kk,δ) from hk,Q1,ho,Q1,hz x hx]
  rfl
theorem Q6L {i:Nat} {kk dd:α → D} {q:α → Option γ} {e:α → γ → D} {ok:α → γ → Option β} (hv:VN fb δ oe re) (hk:∀ x,VP fa (re x).2 (kk x)) (hd:∀ x,(re x).2[i]? = some (.ow (dd x))) (hz:∀ x v,q x = some v → Q7c (dd x) (kk x) (re x).1 = some (e x v)) (k:∀ x y,SB as g' ((re x).2.set i (.ow (e x y))) (ok x y) r):SB as (Xu (Q2i i fa fb) g') δ (oe.bind fun x=>(q x).bind fun y=>ok x y) r:=fun v hv'=>by
 obtain ⟨x,hx,hv'⟩:=V5 hv'
 obtain ⟨y,hy,hv'⟩:=V5 hv'
 have ho:Q50 i (re x).2 = some (dd x):=by unfold Q50; rw [hd x]
 rw [Wv (δ1:=(re x).2.set i (.ow (e x y)))]
 ·exact k x y v hv'
 ·unfold Q2i
  rw [hv x hx,Q1,ho,Q1,show fa (re x).2 = some (kk x,(re x).2) from hk x,Q1,ho,Q1,hz x y hy]
  rfl
variable {cc:Fb} {s:Bool} {oa ob:Option β}
theorem Q4o (hc:TP cc δ s) (ha:SB as (Xu ga g') δ oa r) (hb:SB as (Xu gb g') δ ob r):SB as (Xu (sIf cc ga gb) g') δ (if s then oa else ob) r:=fun v hv=>by
 have e:Xu (sIf cc ga gb) g' δ = if s then Xu ga g' δ else Xu gb g' δ:=by
  unfold Xu sIf
  rw [show cc δ = some (s,δ) from hc]
  cases s <;> rfl
 rw [e]
 cases s
 ·exact hb v hv
 ·exact ha v hv
theorem Q25 {oc:Option α} {rc:α → Bool × List Sl} {bb:α → Bool} {oa ob:α → Option β} (hc:TN cc δ oc rc) (hb:∀ x,(rc x).1 = bb x) (ha:∀ x,SB as (Xu ga g') (rc x).2 (oa x) r) (hb2:∀ x,SB as (Xu gb g') (rc x).2 (ob x) r):SB as (Xu (sIf cc ga gb) g') δ (oc.bind fun x=>if bb x then oa x else ob x) r:=fun v hv=>by
 obtain ⟨x,hx,hv⟩:=V5 hv
 have e:Xu (sIf cc ga gb) g' δ = if bb x then Xu ga g' (rc x).2 else Xu gb g' (rc x).2:=by
  unfold Xu sIf
  rw [hc x hx,Q1,hb x]
  cases bb x <;> rfl
 rw [e]
 cases e2:bb x with
 | false=>rw [e2] at hv; exact hb2 x v hv
 | true=>rw [e2] at hv; exact ha x v hv
theorem Q1g {st:σ → List Sl} {oi:Option σ} {ok:σ → Option β} (h:SB as g δ oi (fun s=>.nx (st s))) (k:∀ s,SB as g' (st s) (ok s) r):SB as (Xu g g') δ (oi.bind ok) r:=fun v hv=>by
 obtain ⟨x,hx,hv⟩:=V5 hv
 rw [Wv (h x hx)]
 exact k x v hv
theorem Q3G {oa ob:Option β} (hc:TP cc δ s) (ha:SB as ga δ oa r) (hb:SB as gb δ ob r):SB as (sIf cc ga gb) δ (if s then oa else ob) r:=fun v hv=>by
 have e:sIf cc ga gb δ = if s then ga δ else gb δ:=by
  unfold sIf
  rw [show cc δ = some (s,δ) from hc]
  cases s <;> rfl
 rw [e]
 cases s
 ·exact hb v hv
 ·exact ha v hv
theorem Qgo {oc:Option α} {rc:α → Bool × List Sl} {bb:α → Bool} {oa ob:α → Option β} (hc:TN cc δ oc rc) (hb:∀ x,(rc x).1 = bb x) (ha:∀ x,SB as ga (rc x).2 (oa x) r) (hb2:∀ x,SB as gb (rc x).2 (ob x) r):SB as (sIf cc ga gb) δ (oc.bind fun x=>if bb x then oa x else ob x) r:=fun v hv=>by
 obtain ⟨x,hx,hv⟩:=V5 hv
 have e:sIf cc ga gb δ = if bb x then ga (rc x).2 else gb (rc x).2:=by
  unfold sIf
  rw [hc x hx,Q1,hb x]
  cases bb x <;> rfl
 rw [e]
 cases e2:bb x with
 | false=>rw [e2] at hv; exact hb2 x v hv
 | true=>rw [e2] at hv; exact ha x v hv
theorem Qc0 {g1 g2 g3:Fg}:Xu (Xu g1 g2) g3 δ = Xu g1 (Xu g2 g3) δ:=by
 unfold Xu
 cases g1 δ with
 | none=>rfl
 | some o=>cases o <;> rfl
theorem Vt {g1 g2 g3:Fg} (h:SB as (Xu g1 (Xu g2 g3)) δ o r):SB as (Xu (Xu g1 g2) g3) δ o r:=fun v hv=>by
 rw [Qc0]
 exact h v hv
theorem Xz {δ':List Sl} (h:SB as g δ' o r) (e:δ = δ':=by rfl):SB as g δ o r:=e ▸ h
theorem g2x {g:D → D → Option D} {o:Option D} (h:g a b = o):g2 g [a,b] = o:=h
theorem Wb (h:SB as g' δ o r):SB as (Xu Ym g') δ o r:=h
theorem QiR {i:Nat} (h:SB as (Xu g g') (frz i δ) o r):SB as (Xu (Qhp i g) g') δ o r:=h
theorem Q1C {vs:List Nat} (h:SB as (Xu g g') (Vo vs δ) o r):SB as (Xu (Q63 vs g) g') δ o r:=h
theorem Zm {v:β} (h:r v = .nx δ):SB as Ym δ (some v) r:=fun w hw=>by cases hw; rw [h]; rfl
theorem QcQ {v:β} {vs:List Nat} (h:r v = .nx (Vo vs δ)):SB as (Q08 vs) δ (some v) r:=fun w hw=>by cases hw; rw [h]; rfl
theorem Z4 {v:β} {vs:List Nat} (h:r v = .lp (Vo vs δ)):SB as (Q08 vs) δ (some v) r:=fun w hw=>by cases hw; rw [h]; exact .inl rfl
theorem Qh2 {v:β} {vs:List Nat} (h:r v = .lp (Vo vs δ)):SB as (Xu (QbI vs) g') δ (some v) r:=fun w hw=>by cases hw; rw [h]; exact .inr rfl
theorem Z1 {v:β} {outs:List Sl} (h:VP f δ d) (hr:r v = .rt d outs) (hm:as δ = some outs:=by rfl):SB as (Xu (Vp f) g') δ (some v) r:=fun w hw=>by
 cases hw
 rw [hr]
 refine ⟨δ,?_,hm⟩
 unfold Xu Vp
 rw [show f δ = some (d,δ) from h]
 rfl
theorem Vb {v:α → β} {outs:α → List Sl} (h:VN f δ oe re) (hr:∀ x,r (v x) = .rt (re x).1 (outs x)) (hm:∀ x,as (re x).2 = some (outs x):=by intro _; rfl):SB as (Xu (Vp f) g') δ (oe.bind fun x=>some (v x)) r:=fun w hw=>by
 obtain ⟨x,hx,hw⟩:=V5 hw
 cases hw
 rw [hr]
 refine ⟨_,?_,hm x⟩
 unfold Xu Vp
 rw [h x hx]
 rfl
theorem Qdh {i:Nat} {v:β} {outs:List Sl} (h:δ[i]? = some (.ow d)) (hr:r v = .rt d outs) (hm:as δ = some outs:=by rfl):SB as (Xu (Q8R i) g') δ (some v) r:=fun w hw=>by
 cases hw
 rw [hr]
 refine ⟨δ,?_,hm⟩
 unfold Xu Q8R
 rw [h]
 rfl
variable {ι:Type} {e:ι → D} {fi:Fs} {body:Fg} {xs:List ι}
def Q4u (step:ι → σ → Option σ):List ι → σ → Option σ
 | [],s=>some s
 | x :: xs,s=>(step x s).bind fun s'=>Q4u step xs s'
def QaR (step:ι → σ → Option (σ ⊕ ρ)):List ι → σ → Option (σ ⊕ ρ)
 | [],s=>some (.inl s)
 | x :: xs,s=>(step x s).bind fun w=>match w with
  | .inl s'=>QaR step xs s'
  | .inr v=>some (.inr v)
def Q4E (c:σ → Option Bool) (step:σ → Option σ):Nat → σ → Option σ
 | 0,_=>none
 | n + 1,s=>(c s).bind fun b=>match b with
  | true=>(step s).bind fun s'=>Q4E c step n s'
  | false=>some s
theorem QbM {st:σ → List Sl} {step:ι → σ → Option σ} {δb:ι → σ → List Sl} (hT:∀ x s,Vu T (e x) (st s) = some (δb x s)) (hb:∀ x s,SB as body (δb x s) (step x s) (fun s'=>.lp (st s'))):∀ (xs:List ι) (s s':σ),Q4u step xs s = some s' → Q5s T body (xs.map e) (st s) = some (.nx (st s'))
 | [],s,s',h=>by cases h; rfl
 | x :: xs,s,s',h=>by
  unfold Q4u at h
  obtain ⟨s1,h1,h⟩:=V5 h
  rw [Qq]
  unfold Q5s
  rw [hT x s,Q1]
  rcases hb x s s1 h1 with q | q
  ·rw [q]; exact QbM hT hb xs s1 s' h
  ·rw [q]; exact QbM hT hb xs s1 s' h
theorem Q3g {st:σ → List Sl} {s0:σ} {step:ι → σ → Option σ} {δb:ι → σ → List Sl} {ok:σ → Option β} (hi:AP fi δ (xs.map e)) (hT:∀ x s,Vu T (e x) (st s) = some (δb x s)) (hb:∀ x s,SB as body (δb x s) (step x s) (fun s'=>.lp (st s'))) (k:∀ s,SB as g' (st s) (ok s) r) (h0:δ = st s0:=by rfl):SB as (Xu (Q1H T fi body) g') δ ((Q4u step xs s0).bind ok) r:=fun v hv=>by
 obtain ⟨s,hs,hv⟩:=V5 hv
 rw [Wv (δ1:=st s)]
 ·exact k s v hv
 ·unfold Q1H
  rw [show fi δ = some (xs.map e,δ) from hi]
  subst h0
  exact QbM hT hb xs s0 s hs
theorem Q3U {rs:α → List D × List Sl} {ok:α → Option β} (hi:AN fi δ oe rs) (h:∀ x,SB as (Xu (Q1H T (fun δ=>some ((rs x).1,δ)) body) g') (rs x).2 (ok x) r):SB as (Xu (Q1H T fi body) g') δ (oe.bind ok) r:=fun v hv=>by
 obtain ⟨x,hx,hv⟩:=V5 hv
 have:=h x v hv
 have e:Xu (Q1H T fi body) g' δ = Xu (Q1H T (fun δ=>some ((rs x).1,δ)) body) g' (rs x).2:=by
  unfold Xu Q1H
  rw [hi x hx]
 rw [e]
 exact this
theorem QbS {st:σ → List Sl} {step:ι → σ → Option (σ ⊕ ρ)} {δb:ι → σ → List Sl} {rv:ρ → D} {ro:ρ → List Sl} (hT:∀ x s,Vu T (e x) (st s) = some (δb x s)) (hb:∀ x s,SB as body (δb x s) (step x s) (X2 (fun s'=>.lp (st s')) (fun v=>.rt (rv v) (ro v)))):∀ (xs:List ι) (s:σ) (w:σ ⊕ ρ),QaR step xs s = some w → OcR as (Q5s T body (xs.map e) (st s)) (X2 (fun s'=>.nx (st s')) (fun v=>.rt (rv v) (ro v)) w)
 | [],s,w,h=>by cases h; rfl
 | x :: xs,s,w,h=>by
  unfold QaR at h
  obtain ⟨w1,h1,h⟩:=V5 h
  rw [Qq]
  unfold Q5s
  rw [hT x s,Q1]
  cases w1 with
  | inl s1 =>
   rcases hb x s _ h1 with q | q
   ·rw [q]; exact QbS hT hb xs s1 w h
   ·rw [q]; exact QbS hT hb xs s1 w h
  | inr v =>
   cases h
   obtain ⟨δ',q,q2⟩:=hb x s _ h1
   rw [q]
   exact ⟨δ',rfl,q2⟩
theorem QcC {st:σ → List Sl} {s0:σ} {step:ι → σ → Option (σ ⊕ ρ)} {δb:ι → σ → List Sl} {rv:ρ → D} {ro:ρ → List Sl} {ok:σ → Option β} {kr:ρ → Option β} (hi:AP fi δ (xs.map e)) (hT:∀ x s,Vu T (e x) (st s) = some (δb x s)) (hb:∀ x s,SB as body (δb x s) (step x s) (X2 (fun s'=>.lp (st s')) (fun v=>.rt (rv v) (ro v)))) (hr:∀ v,∃ a,kr v = some a ∧ r a = .rt (rv v) (ro v)) (k:∀ s,SB as g' (st s) (ok s) r) (h0:δ = st s0:=by rfl):SB as (Xu (Q1H T fi body) g') δ ((QaR step xs s0).bind (X2 ok kr)) r:=fun v hv=>by
 obtain ⟨w,hw,hv⟩:=V5 hv
 subst h0
 have q:=QbS hT hb xs s0 w hw
 have e1:Q1H T fi body (st s0) = Q5s T body (xs.map e) (st s0):=by
  unfold Q1H
  rw [show fi (st s0) = some (xs.map e,st s0) from hi]
  rfl
 cases w with
 | inl s =>
  rw [Wv (e1.trans q)]
  exact k s v hv
 | inr v1 =>
  obtain ⟨a,h1,h2⟩:=hr v1
  have:a = v:=by
   have h3:kr v1 = some v:=hv
   rw [h1] at h3
   exact Ja.inj h3
  subst this
  rw [h2]
  obtain ⟨δ',q1,q2⟩:=q
  refine ⟨δ',?_,q2⟩
  unfold Xu
  rw [e1,q1]
  rfl
theorem Q7j {st:σ → List Sl} {cN:σ → Option Bool} {step:σ → Option σ} (hc:∀ s,TN cc (st s) (cN s) (fun b=>(b,st s))) (hb:∀ s,SB as body (st s) (step s) (fun s'=>.lp (st s'))):∀ (n:Nat) (s s':σ),Q4E cN step n s = some s' → Q2e cc body n (st s) = some (.nx (st s'))
 | 0,s,s',h=>by cases h
 | n + 1,s,s',h=>by
  unfold Q4E at h
  obtain ⟨b,h1,h⟩:=V5 h
  unfold Q2e
  rw [hc s b h1,Q1]
  cases b with
  | false=>cases h; rfl
  | true =>
   obtain ⟨s1,h2,h⟩:=V5 h
   show (body (st s)).bind _ = _
   rcases hb s s1 h2 with q | q
   ·rw [q]; exact Q7j hc hb n s1 s' h
   ·rw [q]; exact Q7j hc hb n s1 s' h
theorem QfC {n:Nat} {st:σ → List Sl} {s0:σ} {cN:σ → Option Bool} {step:σ → Option σ} {ok:σ → Option β} (hc:∀ s,TN cc (st s) (cN s) (fun b=>(b,st s))) (hb:∀ s,SB as body (st s) (step s) (fun s'=>.lp (st s'))) (k:∀ s,SB as g' (st s) (ok s) r) (h0:δ = st s0:=by rfl):SB as (Xu (Q2e cc body n) g') δ ((Q4E cN step n s0).bind ok) r:=fun v hv=>by
 obtain ⟨s,hs,hv⟩:=V5 hv
 subst h0
 rw [Wv (Q7j hc hb n s0 s hs)]
 exact k s v hv
theorem Zt {as:List Sl} {sg:List Bool} {m:Nat} {fr:Fr} {dv:β → D} {outs:β → List Sl} (h:SB (Ke as) g (as ++ Qn (m - sg.length) .no) o (fun v=>.rt (dv v) (outs v))) (ha:Q4M sg as = true:=by rfl):∀ v,o = some v → fnF sg m fr g as = some (dv v,outs v):=fun v hv=>by
 obtain ⟨δ',h1,h2⟩:=h v hv
 unfold fnF
 rw [if_pos ha,h1]
 show (Ke as δ').map _ = _
 rw [h2]
 rfl
end
end Z
namespace Z
open PySem PySem.Spec PyProof.Rows L2
structure Gd {α:Type} (e:α → D) (n:Nat):Prop where
 pl:∀ a,(e a).plain = true
 dp:∀ a,(e a).depth ≤ n
 eq:∀ a b,Jm (e a) (e b) = true ↔ a = b
theorem gI:Gd Q0 0:=⟨fun _=>rfl,fun _=>Jf _,fun a b=>by simp [Jm]⟩
theorem gS:Gd Q3 0:=⟨fun _=>rfl,fun _=>Jf _,fun a b=>by simp [Jm]⟩
section
variable {α β γ κ μ τ:Type} {e:α → D} {e':β → D} {e3:γ → D} {e4:κ → D} {e5:μ → D} {n n2 n3 n4 n5:Nat}
theorem Q5N (g:Gd e n):∀ xs:List α,Jv (xs.map e) = true
 | []=>rfl
 | x :: xs=>by
  show ((e x).plain && Jv (xs.map e)) = true
  rw [g.pl,Q5N g xs]; rfl
theorem Q5V (g:Gd e n):∀ xs:List α,Jc (xs.map e) ≤ n
 | []=>Jo _
 | x :: xs=>by
  have:=Q5V g xs
  have:=g.dp x
  simp only [Qq,Jc]
  omega
theorem Q9R (g:Gd e n):∀ xs ys:List α,PyData.eqvAll (xs.map e) (ys.map e) = true ↔ xs = ys
 | [],[]=>by simp [PyData.eqvAll]
 | [],y :: ys=>by simp [PyData.eqvAll]
 | x :: xs,[]=>by simp [PyData.eqvAll]
 | x :: xs,y :: ys=>by
  simp only [Qq,PyData.eqvAll,Q5,g.eq,Q9R g xs ys,Xd.injEq]
theorem gLi (g:Gd e n):Gd (eLi e) (n + 1):=⟨fun xs=>Q5N g xs,fun xs=>by have:=Q5V g xs; simp only [eLi,X6]; omega,fun xs ys=>by simp only [eLi,Jm]; exact Q9R g xs ys⟩
theorem gTu (g:Gd e n):Gd (eTu e) (n + 1):=⟨fun xs=>Q5N g xs,fun xs=>by have:=Q5V g xs; simp only [eTu,X6]; omega,fun xs ys=>by simp only [eTu,Jm]; exact Q9R g xs ys⟩
theorem gP2 (g:Gd e n) (h:Gd e' n2):Gd (eP2 e e') (max n n2 + 1):=⟨fun a=>by simp [eP2,PyData.plain,Jv,g.pl,h.pl],fun a=>by have:=g.dp a.1; have:=h.dp a.2; simp only [eP2,X6,Jc]; omega,fun a b=>by simp [eP2,Jm,PyData.eqvAll,g.eq,h.eq,Prod.ext_iff]⟩
theorem gP3 (g:Gd e n) (h:Gd e' n2) (i:Gd e3 n3):Gd (eP3 e e' e3) (max n (max n2 n3) + 1):=⟨fun a=>by simp [eP3,PyData.plain,Jv,g.pl,h.pl,i.pl],fun a=>by have:=g.dp a.1; have:=h.dp a.2.1; have:=i.dp a.2.2; simp only [eP3,X6,Jc]; omega,fun a b=>by simp [eP3,Jm,PyData.eqvAll,g.eq,h.eq,i.eq,Prod.ext_iff]⟩
theorem Qdk (g:Gd e n) (hn:n ≤ 64) (a:α):shp (e a) = true:=by
 unfold shp
 rw [g.pl,decide_eq_true (J3 (g.dp a) hn)]; rfl
theorem Q1I [DecidableEq α] (g:Gd e n) (a b:α) (hn:n ≤ 64:=by decide):bD eqD (e a) (e b) = some (.bool (decide (a = b))):=by
 unfold bD eqD
 rw [Qdk g hn,Qdk g hn]
 have:Jm (e a) (e b) = decide (a = b):=by
  rw [Bool.eq_iff_iff,g.eq,decide_eq_true_eq]
 simp [this]
theorem Q4t [DecidableEq α] (g:Gd e n) (a b:α) (hn:n ≤ 64:=by decide):bD neD (e a) (e b) = some (.bool (!decide (a = b))):=by
 unfold bD neD eqD
 rw [Qdk g hn,Qdk g hn]
 have:Jm (e a) (e b) = decide (a = b):=by
  rw [Bool.eq_iff_iff,g.eq,decide_eq_true_eq]
 simp [this]
theorem Q7r (a b:Int):bD ltD (.int a) (.int b) = some (.bool (decide (a < b))):=rfl
theorem Qcf (a b:Int):bD leD (.int a) (.int b) = some (.bool (decide (a ≤ b))):=rfl
theorem Qgy (a b:Int):bD gtD (.int a) (.int b) = some (.bool (decide (b < a))):=rfl
def Q23 (a b:Int):Option Int:=if Q0s a || Q0s b then some (a * b) else none
theorem Q74 (a b v:Int) (h:Q23 a b = some v):Vx (.int a) (.int b) = some (.int v):=by
 unfold Q23 at h
 split at h
 ·rename_i c
  cases h
  simp [Vx,QaM,c]
 ·cases h
theorem Qkx (a:Int):QiV (.int a) = some (.int (-a)):=rfl
def boI (b:Bool):Int:=if b then 1 else 0
theorem Qd7 (b:Bool):g1 QbK [.bool b] = some (.int (boI b)):=rfl
def QdF (i:Int):Option Str:=if i.natAbs.log2 < 1920 then some (toString i:String) else none
theorem QfL (i:Int) (v:Str) (h:QdF i = some v):g1 Q6G [.int i] = some (.str v):=by
 unfold QdF at h
 split at h
 ·rename_i c
  cases h
  exact if_pos c
 ·cases h
def Q1e (a b:Str):Option Str:=if a.length + b.length ≤ sizeLine then some (a ++ b) else none
theorem Zj (a b v:Str) (h:Q1e a b = some v):Yr (.str a) (.str b) = some (.str v):=by
 unfold Q1e at h
 unfold Yr
 show (if a.length + b.length ≤ sizeLine then some (Q3 (a ++ b)) else none).or _ = _
 split at h
 ·rename_i c
  cases h
  rw [if_pos c]; rfl
 ·cases h
def Q5z (a:Str):Option Int:=if a.length ≤ sizeLine then some (a.length:Int) else none
theorem Q96 (a:Str) (v:Int) (h:Q5z a = some v):g1 Zp [.str a] = some (.int v):=by
 unfold Q5z at h
 show (if a.length ≤ sizeLine then some (Q0 a.length) else none) = _
 split at h
 ·rename_i c
  cases h
  exact if_pos c
 ·cases h
def Q52 (d:D):Option Str:=(Q6l d).bind fun z=>match z with | .str s=>some s | _=>none
theorem Qd2 (d:D) (v:Str) (h:Q52 d = some v):g1 Q6l [d] = some (.str v):=by
 unfold Q52 at h
 obtain ⟨z,h1,h2⟩:=V5 h
 show Q6l d = _
 rw [h1]
 cases z <;> first | cases h2; rfl | cases h2
def Wg (a b:List α):Option (List α):=if a.length + b.length ≤ sizeLine then some (a ++ b) else none
theorem W4 (a b v:List α) (h:Wg a b = some v):Yr (eLi e a) (eLi e b) = some (eLi e v):=by
 unfold Wg at h
 unfold Yr
 show (none:Option D).or (if (a.map e).length + (b.map e).length ≤ sizeLine then some (Jt (a.map e ++ b.map e)) else none) = _
 split at h
 ·rename_i c
  cases h
  rw [Q4,Q4,if_pos c,← Jw]; rfl
 ·cases h
def Qe9 (xs:List α) (k:Int):Option (List α):=if decide (0 ≤ k) && decide (k < 2 ^ 62) && decide (xs.length * k.toNat ≤ sizeLine) then some (Qn k.toNat xs).flatten else none
theorem QaV (f:α → β) (k:Nat) (xs:List α):(Qn k (xs.map f)).flatten = (Qn k xs).flatten.map f:=by
 rw [List.map_flatten,List.map_replicate]
def Q7s (xs:List α) (k:Int):Option (List α):=if (!xs.isEmpty) && decide (-1000 ≤ k) && decide (k ≤ 1000) && decide (xs.length ≤ 1000) then some (Qn k.toNat xs).flatten else none
theorem QeP (xs:List α) (k:Int) (v:List α) (h:Q7s xs k = some v):Vx (eTu e xs) (.int k) = some (eTu e v):=by
 unfold Q7s at h
 unfold Vx
 show (if (!(xs.map e).isEmpty) && decide (-1000 ≤ k) && decide (k ≤ 1000) && decide ((xs.map e).length ≤ 1000) then some (PyData.tuple (Qn k.toNat (xs.map e)).flatten) else none).or _ = _
 split at h
 ·rename_i c
  cases h
  rw [Q4,List.isEmpty_map,if_pos c,QaV]; rfl
 ·cases h
theorem Qhu (f:α → β) (xs:List α) (i:Int):atI (xs.map f) i = (atI xs i).map f:=by
 unfold atI
 rw [Q4]
 cases ixN xs.length i with
 | none=>rfl
 | some j=>simp
theorem K4 (xs:List α) (i:Int) (v:α) (h:atI xs i = some v):W1 (eLi e xs) (.int i) = some (e v):=by
 show atI (xs.map e) i = _
 rw [Qhu,h]; rfl
theorem Qhn (x:D) (r:List D):W1 (.tuple (x :: r)) (.int 0) = some x:=by
 show atI (x :: r) 0 = some x
 exact atI_nat (j:=0) rfl
theorem QeH (x y:D) (r:List D):W1 (.tuple (x :: y :: r)) (.int 1) = some y:=by
 show atI (x :: y :: r) 1 = some y
 exact atI_nat (j:=1) rfl
theorem ixp2 (x y z:D) (r:List D):W1 (.tuple (x :: y :: z :: r)) (.int 2) = some z:=by
 show atI (x :: y :: z :: r) 2 = some z
 exact atI_nat (j:=2) rfl
def sIx (z:Str) (i:Int):Option Str:=if z.length ≤ sizeLine then (atI z.cps.toList i).map fun c=>⟨#[c]⟩ else none
theorem Qg1 (z:Str) (i:Int) (v:Str) (h:sIx z i = some v):W1 (.str z) (.int i) = some (.str v):=by
 unfold sIx at h
 show (if z.length ≤ sizeLine then (atI z.cps.toList i).map fun c=>Q3 ⟨#[c]⟩ else none) = _
 split at h
 ·rename_i c
  rw [if_pos c]
  obtain ⟨q,h1,rfl⟩:=Zw h
  rw [h1]; rfl
 ·cases h
theorem Qd4 (f:α → β) (xs:List α) (lo hi:Option Int):Yn (xs.map f) lo hi = (Yn xs lo hi).map f:=by
 unfold Yn
 rw [Q4,List.map_take,List.map_drop]
theorem K3 (xs:List α) (lo hi:Option Int):Wx (eLi e xs) lo hi = some (eLi e (Yn xs lo hi)):=by
 show some (Jt (Yn (xs.map e) lo hi)) = _
 rw [Qd4]; rfl
theorem Qdn (xs:List α) (lo hi:Option Int):Wx (eTu e xs) lo hi = some (eTu e (Yn xs lo hi)):=by
 show some (PyData.tuple (Yn (xs.map e) lo hi)) = _
 rw [Qd4]; rfl
def Q0v (z:Str) (lo hi:Option Int):Option Str:=if z.length ≤ sizeLine then some (cutS z lo hi) else none
theorem Q6D (z:Str) (lo hi:Option Int) (v:Str) (h:Q0v z lo hi = some v):Wx (.str z) lo hi = some (.str v):=by
 unfold Q0v at h
 show (if z.length ≤ sizeLine then some (Q3 (cutS z lo hi)) else none) = _
 split at h
 ·rename_i c
  cases h
  exact if_pos c
 ·cases h
def W0 (xs:List α):Int:=(xs.length:Int)
theorem Kr (xs:List α):g1 Zp [eLi e xs] = some (.int (W0 xs)):=by
 show some (Q0 (xs.map e).length) = _
 rw [Q4]; rfl
theorem Qjl (xs:List α):g1 Zp [eTu e xs] = some (.int (W0 xs)):=by
 show some (Q0 (xs.map e).length) = _
 rw [Q4]; rfl
theorem QhW (xs:List Int):g1 Q9n [eLi Q0 xs] = some (.int xs.sum):=by
 show (Zo (xs.map Q0)).map _ = _
 rw [Q2F]; rfl
theorem Q8F:∀ xs:List Bool,Q1d (xs.map Qj) = some xs
 | []=>rfl
 | b :: xs=>by
  show (Q1d (xs.map Qj)).map (b :: ·) = _
  rw [Q8F xs]; rfl
theorem Qia (xs:List Bool):g1 Qfe [eLi Qj xs] = some (.bool (xs.all id)):=by
 show (Q1d (xs.map Qj)).map _ = _
 rw [Q8F]; rfl
theorem Q83 (xs:List α):g1 QaO [eLi e xs] = some (eTu e xs):=rfl
theorem QgQ (xs:List α):g1 Q8O [eLi e xs] = some (eLi e xs):=rfl
theorem Qgs (xs:List α):g1 Q8O [eTu e xs] = some (eLi e xs):=rfl
theorem Q2u (xs:List α):Kq (eLi e xs) = some (xs.map e):=rfl
theorem QhU (xs:List α):Kq (eTu e xs) = some (xs.map e):=rfl
theorem QhN (xs:List (α × β)):Kq (eDi e e' xs) = some ((xs.map (·.1)).map e):=by
 show some ((xs.map fun p=>(e p.1,e' p.2)).map (·.1)) = _
 rw [Jb,Jb]; rfl
def chN (z:Str):List Str:=z.cps.toList.map fun c=>⟨#[c]⟩
theorem Qig (z:Str):Kq (.str z) = some ((chN z).map Q3):=by
 show some (z.cps.toList.map fun c=>Q3 ⟨#[c]⟩) = _
 unfold chN
 rw [Jb]; rfl
def rgQ (i j:Int):Option (List Int):=if rgB i j then some (Q3i i (j - i).toNat) else none
theorem Qki (i j:Int) (v:List Int) (h:rgQ i j = some v):rgD (.int i) (.int j) = some (eLi Q0 v):=by
 unfold rgQ at h
 show (if rgB i j then some (Jt (Q47 i (j - i).toNat)) else none) = _
 split at h
 ·rename_i c
  cases h
  rw [if_pos c,Q6Q]; rfl
 ·cases h
structure Sg {α:Type} (e:α → D):Prop where
 al:∀ a b,PySem.W.alike (e a) (e b) = true
def atomB (d:D):Bool:=match d with | .tuple (_ :: _)=>true | _=>false
def QaN (xs:List (Int × β)):Option (List Int):=if xs.length < 64 then some ((xs.map (·.1)).mergeSort leI) else none
theorem QhJ (xs:List (Int × β)) (v:List Int) (h:QaN xs = some v):g1 Q9e [eDi Q0 e' xs] = some (eLi Q0 v):=by
 unfold QaN at h
 split at h
 ·rename_i c
  cases h
  have q:Zo ((xs.map fun p=>(Q0 p.1,e' p.2)).map (·.1)) = some (xs.map (·.1)):=by
   rw [Jb]
   have:((·.1) ∘ fun p:Int × β=>(Q0 p.1,e' p.2)) = Q0 ∘ (·.1):=rfl
   rw [this,← Jb,Q2F]
  show (Zo ((xs.map fun p=>(Q0 p.1,e' p.2)).map (·.1))).bind _ = _
  rw [q,Q1,if_pos (by rw [Q4]; exact c)]
  rfl
 ·cases h
def Z0 [DecidableEq α] (xs:List (α × β)) (k:α):Option β:=(xs.find? fun p=>decide (p.1 = k)).map (·.2)
def Q01 [DecidableEq α] (xs:List (α × β)) (k:α) (v:β):List (α × β):=if xs.any (fun p=>decide (p.1 = k)) then xs.map (fun p=>if p.1 = k then (p.1,v) else p) else xs ++ [(k,v)]
def Q5E [DecidableEq α] (xs:List (α × β)) (k:α) (v:β):Option (List (α × β)):=if xs.length < sizeLine then some (Q01 xs k v) else none
structure Kg {α:Type} (e:α → D) (f:α → Key):Prop where
 k:∀ a,Kk (e a) = some (f a)
 d:∀ a,Q7m (f a) = e a
 i:∀ a b,f a = f b → a = b
theorem kgI:Kg Q0 Jx:=⟨fun _=>rfl,fun _=>rfl,fun a b h=>by cases h; rfl⟩
variable {kf:α → Key}
theorem QeW [DecidableEq α] (g:Kg e kf) (xs:List (α × β)) (k:α):Q7R (xs.map fun p=>(e p.1,e' p.2)) (kf k) = (Z0 xs k).map e':=by
 unfold Q7R Z0
 have hf:((fun p=>decide (Kk p.1 = some (kf k))) ∘ fun p:α × β=>(e p.1,e' p.2)) = fun p=>decide (p.1 = k):=by
  funext p
  simp only [Function.comp,g.k,Ja.injEq]
  by_cases h:p.1 = k
  ·simp [h]
  ·have hn:¬ kf p.1 = kf k:=fun z=>h (g.i _ _ z)
   simp [h,hn]
 rw [List.find?_map,Option.map_map,Option.map_map,hf]
 rfl
theorem Q6i [DecidableEq α] (g:Kg e kf) (xs:List (α × β)) (k:α) (v:β) (h:Z0 xs k = some v):W1 (eDi e e' xs) (e k) = some (e' v):=by
 have q:W1 (eDi e e' xs) (e k) = (Kk (e k)).bind (Q7R (xs.map fun p=>(e p.1,e' p.2))):=by
  unfold W1 eDi
  cases e k <;> rfl
 rw [q,g.k,Q1,QeW g,h]; rfl
theorem Q9m [DecidableEq α] (g:Kg e kf) (xs:List (α × β)) (k:α) (v:β) (w:List (α × β)) (h:Q5E xs k v = some w):Q7c (eDi e e' xs) (e k) (e' v) = some (eDi e e' w):=by
 unfold Q5E at h
 split at h
 ·rename_i c
  cases h
  have q:Q7c (eDi e e' xs) (e k) (e' v) = (Kk (e k)).bind fun k=>if (xs.map fun p=>(e p.1,e' p.2)).length < sizeLine then some (.dict (QdE (xs.map fun p=>(e p.1,e' p.2)) k (e' v))) else none:=by
   unfold Q7c eDi
   cases e k <;> rfl
  rw [q,g.k,Q1,Q4,if_pos c]
  have hd:∀ p:α × β,decide (Kk (e p.1) = some (kf k)) = decide (p.1 = k):=fun p=>by
   simp only [g.k,Ja.injEq]
   by_cases h:p.1 = k
   ·simp [h]
   ·have hn:¬ kf p.1 = kf k:=fun z=>h (g.i _ _ z)
    simp [h,hn]
  congr 1
  unfold eDi QdE Q01
  rw [List.any_map]
  have ha:(fun p=>decide (Kk p.1 = some (kf k))) ∘ (fun p:α × β=>(e p.1,e' p.2)) = fun p=>decide (p.1 = k):=by
   funext p
   exact hd p
  rw [ha]
  split
  ·rw [Jb,Jb]
   congr 1
   apply Jl
   intro p _
   simp only [Function.comp]
   have:=hd p
   by_cases h:p.1 = k
   ·rw [if_pos (by rw [h,g.k]),if_pos h]
   ·rw [if_neg (fun z=>h (g.i _ _ (by rw [g.k] at z; exact Ja.inj z))),if_neg h]
  ·rw [Jw,g.d]; rfl
 ·cases h
def Q32 (xs:List α) (i:Int) (v:α):Option (List α):=(ixN xs.length i).map fun j=>xs.set j v
theorem Q3a (xs:List α) (i:Int) (v:α) (w:List α) (h:Q32 xs i v = some w):Q7c (eLi e xs) (.int i) (e v) = some (eLi e w):=by
 unfold Q32 at h
 obtain ⟨j,h1,rfl⟩:=Zw h
 show (ixN (xs.map e).length i).map _ = _
 rw [Q4,h1,Qi,← List.map_set]; rfl
theorem Q8B (f:α → β):∀ (xs:List α) (i:Nat),(xs.map f).eraseIdx i = (xs.eraseIdx i).map f
 | [],_=>rfl
 | x :: xs,0=>rfl
 | x :: xs,i + 1=>by simp [List.eraseIdx,Q8B f xs i]
variable {δ:List Sl} {fa:Fe} {o:Option γ} {r:γ → D × List Sl}
def QfE (xs:List α) (x:α):Option (List α):=if xs.length < sizeLine then some (xs ++ [x]) else none
def QgZ (xs ys:List α):Option (List α):=if xs.length + ys.length ≤ sizeLine then some (xs ++ ys) else none
def Q5Q (xs:List α) (n:Int):Option (α × List α):=if 0 ≤ n ∧ xs.length ≤ sizeLine then (xs[n.toNat]?).map fun x=>(x,xs.eraseIdx n.toNat) else none
theorem QjM (i:Nat) {xs:List α} {x:α} (h:VP fa δ (e x)) (hi:δ[i]? = some (.ow (eLi e xs)):=by rfl):VN (Qf4 i fa) δ (QfE xs x) (fun ys=>(.none,δ.set i (.ow (eLi e ys)))):=fun ys hy=>by
 unfold QfE at hy
 have ho:ownL i δ = some (xs.map e):=by unfold ownL; rw [hi]; rfl
 unfold Qf4
 rw [ho,Q1,show fa δ = some (e x,δ) from h,Q1,ho,Q1]
 split at hy
 ·rename_i c
  cases hy
  rw [if_pos (by rw [Q4]; exact c)]
  show some (PyData.none,δ.set i (.ow (.list (xs.map e ++ [e x])))) = _
  simp [eLi]
 ·cases hy
theorem Qjd (i:Nat) {xs ys:List α} (h:VP fa δ (eLi e ys)) (hi:δ[i]? = some (.ow (eLi e xs)):=by rfl):VN (Qew i fa) δ (QgZ xs ys) (fun ys=>(.none,δ.set i (.ow (eLi e ys)))):=fun zs hy=>by
 unfold QgZ at hy
 have ho:ownL i δ = some (xs.map e):=by unfold ownL; rw [hi]; rfl
 unfold Qew
 rw [ho,Q1,show fa δ = some (.list (ys.map e),δ) from h,Q1]
 show (ownL i δ).bind _ = _
 rw [ho,Q1]
 split at hy
 ·rename_i c
  cases hy
  rw [if_pos (by rw [Q4,Q4]; exact c)]
  show some (PyData.none,δ.set i (.ow (.list (xs.map e ++ ys.map e)))) = _
  simp [eLi]
 ·cases hy
theorem QaA (i:Nat) {xs0:List α} {ys:γ → List α} {m:γ → Int} (h:VN fa δ o r) (hx:∀ w,(r w).1 = .int (m w)) (hi:∀ w,(r w).2[i]? = some (.ow (eLi e (ys w))):=by intro _; rfl) (hi0:δ[i]? = some (.ow (eLi e xs0)):=by rfl):VN (Q69 i fa) δ (o.bind fun w=>(Q5Q (ys w) (m w)).map fun v=>(w,v)) (fun p=>(e p.2.1,(r p.1).2.set i (.ow (eLi e p.2.2)))):=fun p hp=>by
 obtain ⟨w,hw,hp⟩:=V5 hp
 obtain ⟨v,hv,rfl⟩:=Zw hp
 unfold Q5Q at hv
 have ho0:ownL i δ = some (xs0.map e):=by unfold ownL; rw [hi0]; rfl
 have ho:ownL i (r w).2 = some ((ys w).map e):=by unfold ownL; rw [hi w]; rfl
 split at hv
 ·rename_i c
  obtain ⟨x,h1,rfl⟩:=Zw hv
  unfold Q69
  rw [ho0,Q1,h w hw,Q1,show r w = (.int (m w),(r w).2) from by rw [← hx w]]
  show (ownL i (r w).2).bind _ = _
  rw [ho,Q1,if_pos (by rw [Q4]; exact c),Qp,h1]
  show some (e x,(r w).2.set i (.ow (.list (((ys w).map e).eraseIdx (m w).toNat)))) = _
  simp [eLi,Q8B]
 ·cases hv
theorem Q04 {z:γ → D} {f:Fe} (h:VN f δ o r) (e:∀ x,(r x).1 = z x):VN f δ o (fun x=>(z x,(r x).2)):=fun x hx=>by
 rw [h x hx]
 show some (r x) = some (z x,(r x).2)
 rw [← e x]
theorem Qcu {ga:Fb} {s:Bool} (h:TP ga δ s) {v:β} {r':β → Bool × List Sl} (e:(s,δ) = r' v):TN ga δ (some v) r':=fun y hy=>by
 cases hy
 exact (show ga δ = some (s,δ) from h).trans (by rw [e])
theorem coL {f:α → β} (h:∀ x,e x = e' (f x)) (xs:List α):eLi e xs = eLi e' (xs.map f):=by
 unfold eLi
 rw [Jb]
 exact congrArg Jt (Jl fun x _=>h x)
theorem coP2 {α' β':Type} {u:α' → D} {w:β' → D} {f:α → α'} {g:β → β'} (h1:∀ x,e x = u (f x)) (h2:∀ x,e' x = w (g x)) (p:α × β):eP2 e e' p = eP2 u w (f p.1,g p.2):=by
 unfold eP2
 rw [h1,h2]
theorem QhP {w:τ → D} {f:α → τ} (h1:∀ x,e x = w (f x)) (p:α):eP1 e p = eTu w [f p]:=by
 unfold eP1 eTu
 rw [h1]; rfl
theorem Qip (xs:List α) (k:Int) (v:List α) (h:Qe9 xs k = some v):Qca (eLi e xs) (.int k) = some (eLi e v):=by
 unfold Qe9 at h
 show (if decide (0 ≤ k) && decide (k < 2 ^ 62) && decide ((xs.map e).length * k.toNat ≤ sizeLine) then some (Jt (Qn k.toNat (xs.map e)).flatten) else none) = _
 split at h
 ·rename_i c
  cases h
  rw [Q4,if_pos c,QaV]; rfl
 ·cases h
def asI:D → Option Int | .int i=>some i | _=>none
def asS:D → Option Str | .str i=>some i | _=>none
theorem Q6A (d:D) (v:Int) (h:asI d = some v):d = .int v:=by
 cases d <;> first | cases h; rfl | cases h
theorem Qil (d:D) (v:Str) (h:asS d = some v):d = .str v:=by
 cases d <;> first | cases h; rfl | cases h
theorem QjG {f:D → Option α} (hf:∀ d v,f d = some v → d = e v):∀ (ds:List D) (vs:List α),ds.mapM f = some vs → ds = vs.map e
 | [],vs,h=>by simp at h; subst h; rfl
 | d :: ds,vs,h=>by
  rw [List.mapM_cons] at h
  obtain ⟨v,h1,h⟩:=V5 h
  obtain ⟨ws,h2,h⟩:=V5 h
  cases h
  rw [hf d v h1,QjG hf ds ws h2]; rfl
def Qe5 (f:D → Option α) (g:D → Option β):D → Option (α × β) | .tuple [a,b]=>(f a).bind fun x=>(g b).map fun y=>(x,y) | _=>none
theorem Qiy {f:D → Option α} {g:D → Option β} (hf:∀ d v,f d = some v → d = e v) (hg:∀ d v,g d = some v → d = e' v) (d:D) (v:α × β) (h:Qe5 f g d = some v):d = eP2 e e' v:=by
 unfold Qe5 at h
 split at h
 ·obtain ⟨x,h1,h⟩:=V5 h
  obtain ⟨y,h2,rfl⟩:=Zw h
  rw [hf _ _ h1,hg _ _ h2]; rfl
 ·cases h
theorem Q70 {f:D → Option β} (hf:∀ d v,f d = some v → d = e' v):∀ (ds:List D) (vs:List β),ds.mapM f = some vs → ds.map eD = vs.map e'
 | [],vs,h=>by simp at h; subst h; rfl
 | d :: ds,vs,h=>by
  rw [List.mapM_cons] at h
  obtain ⟨v,h1,h⟩:=V5 h
  obtain ⟨ws,h2,h⟩:=V5 h
  cases h
  rw [Qq,Qq,Q70 hf ds ws h2,← hf d v h1]; rfl
theorem dnL {f:D → Option β} (hf:∀ d v,f d = some v → d = e' v) (ds:List D) (v:List β) (h:List.mapM f ds = some v):eLi eD ds = eLi e' v:=congrArg Jt (Q70 hf ds v h)
theorem QjC {f:D → Option β} (hf:∀ d v,f d = some v → d = e' v) (ds:List D) (v:List β) (h:List.mapM f ds = some v):Kq (eLi eD ds) = some (v.map e'):=congrArg some (Q70 hf ds v h)
theorem QiZ (d:D) (v:List D) (h:Kq d = some v):Kq d = some (v.map eD):=by
 rw [h]
 congr 1
 exact (X9 v).symm
theorem rawI (o:Option D) (v:Int) (h:o.bind asI = some v):o = some (.int v):=by
 obtain ⟨d,h1,h2⟩:=V5 h
 rw [h1,Q6A d v h2]
def Q7S (ds:List D):Option (List D):=if Q4J ds && Q6s ds && ds.all (fun d=>decide (d.depth ≤ 64)) then some (Qbf ds) else none
theorem Qi6 (ds:List D):ds.map eD = ds:=X9 ds
theorem QcY (ds v:List D) (h:Q7S ds = some v):g1 Qai [eLi eD ds] = some (eLi eD v):=by
 unfold Q7S at h
 show (if Q4J (ds.map eD) && Q6s (ds.map eD) && (ds.map eD).all (fun d=>decide (d.depth ≤ 64)) then some (Jt (Qbf (ds.map eD))) else none) = _
 rw [Qi6]
 split at h
 ·rename_i c
  cases h
  rw [if_pos c]
  unfold eLi
  rw [Qi6]
 ·cases h
def Qb5 (ns:List Int):Dk:=⟨Wr ns,Q7O ns,0⟩
def W2 (k:Dk) (M:Int):Option (Int × Dk):=match Q85 [sDk k,.fz (.int M)] with
 | some (.int r,[.dk cs m n,.fz (.int M')])=>if M' = M then some (r,⟨cs,m,n⟩) else none
 | _=>none
theorem QgH (k:Dk) (M:Int):∀ v,W2 k M = some v → Q85 [sDk k,.fz (.int M)] = some (.int v.1,[sDk v.2,.fz (.int M)]):=fun v h=>by
 unfold W2 at h
 split at h
 ·rename_i r cs m n M' e
  split at h
  ·rename_i c
   cases h
   subst c
   exact e
  ·cases h
 ·cases h
theorem Qfm (k:Dk) (M:Int) (hM:0 < M) (hM2:M < 2 ^ 30) (hc:k.cs.length ≤ 63):∃ r k',W2 k M = some (r,k') ∧ 0 ≤ r ∧ r < M ∧ k'.cs.length ≤ 63:=by
 obtain ⟨r,cs',n',h1,h2,h3,h4⟩:=QhA k.cs k.m k.n M hM hM2 hc
 refine ⟨r,⟨cs',k.m,n'⟩,?_,h1,h2,h3⟩
 unfold W2
 show (match Q85 [.dk k.cs k.m k.n,.fz (.int M)] with | some (.int r,[.dk cs m n,.fz (.int M')])=>if M' = M then some (r,(⟨cs,m,n⟩:Dk)) else none | _=>none) = _
 rw [h4]
 exact if_pos rfl
theorem QgL {i j:Nat} {as:List Sl → Option (List Sl)} {g':Fg} {o:Option β} {r:β → Oc} {ns:List Int} (k:SB as g' (δ.set i (sDk (Qb5 ns))) o r) (hj:δ[j]? = some (.scr ns):=by rfl) (hi:decide (i < δ.length) = true:=by rfl):SB as (Xu (QaW i j) g') δ o r:=fun v hv=>by
 rw [Wv (δ1:=δ.set i (sDk (Qb5 ns)))]
 ·exact k v hv
 ·unfold QaW
  rw [hj]
  exact if_pos (of_decide_eq_true hi)
theorem Qhv:VP QjU δ (eDi e e' []):=rfl
def PPr (f:List Sl → Option (List (D × D) × List Sl)) (δ:List Sl) (ds:List (D × D)):Prop:=f δ = some (ds,δ)
theorem Qcj:PPr Qf8 δ []:=rfl
theorem Q6V {fk fv:Fe} {fr:List Sl → Option (List (D × D) × List Sl)} {k v:D} {ds:List (D × D)} (hk:VP fk δ k) (hv:VP fv δ v) (hr:PPr fr δ ds):PPr (Q6k fk fv fr) δ ((k,v) :: ds):=by
 unfold PPr Q6k
 rw [show fk δ = some (k,δ) from hk,Q1,show fv δ = some (v,δ) from hv,Q1,show fr δ = some (ds,δ) from hr]
 rfl
theorem Q9M {fr:List Sl → Option (List (D × D) × List Sl)} {ds:List (D × D)} {ks:List Key} (h:PPr fr δ ds) (hk:Q4x ds = some ks) (hl:decide (ks.length ≤ 15) = true:=by rfl):VP (Q6Y fr) δ (.dict ds):=by
 unfold VP Q6Y
 rw [show fr δ = some (ds,δ) from h,Q1,hk,Q1]
 exact if_pos (of_decide_eq_true hl)
theorem Qar (o:Option Bool) (v:Bool) (h:o = some v):o.map Qj = some (.bool v):=by rw [h]; rfl
end
end Z
namespace Z
open PySem PySem.Spec PyProof.Rows L2
variable {α β:Type}
theorem Q8G (e:α → D) (e':β → D):∀ (xs:List α) (ys:List β),((xs.map e).zip (ys.map e')).map QaP = (xs.zip ys).map (eP2 e e')
 | [],_=>rfl
 | _ :: _,[]=>rfl
 | x :: xs,y :: ys=>by
  show QaP (e x,e' y) :: ((xs.map e).zip (ys.map e')).map QaP = eP2 e e' (x,y) :: (xs.zip ys).map (eP2 e e')
  rw [Q8G e e' xs ys]
  rfl
theorem QgW (e:α → D) (e':β → D) (xs:List α) (ys:List β):Qdm [eLi e xs,eLi e' ys] = some (eLi (eP2 e e') (xs.zip ys)):=congrArg (fun z=>some (Jt z)) (Q8G e e' xs ys)
end Z
namespace Z
open PySem PySem.Spec PyProof.Rows L2
end Z
namespace Z
open PySem PySem.Spec PyProof.Rows L2
end Z
namespace Z
open PySem PySem.Spec PyProof.Rows L2
variable {α β:Type} {e:α → D} {e':β → D} {kf:α → Key}
end Z
namespace Z
open PySem PySem.Spec PyProof.Rows L2
variable {α β:Type} {e:α → D} {e':β → D}
theorem Qge {α' β' γ' ε':Type} {fa fb:Fe} {δ:List Sl} {g':List Sl → Option Out} {oe:Option α'} {re:α' → D × List Sl} {i:Nat} {of:α' → Option β'} {rf:α' → β' → D × List Sl} {d0:α' → D} {dd:α' → β' → D} {q:α' → β' → Option γ'} {e:α' → β' → γ' → D} {ok:α' → β' → γ' → Option ε'} {as} {r} (hv:VN fb δ oe re) (hk:∀ x,VN fa (re x).2 (of x) (rf x)) (h0:∀ x,(re x).2[i]? = some (.ow (d0 x))) (hd:∀ x y,(rf x y).2[i]? = some (.ow (dd x y))) (hz:∀ x y v,q x y = some v → Q7c (dd x y) (rf x y).1 (re x).1 = some (e x y v)) (k:∀ x y z,SB as g' ((rf x y).2.set i (.ow (e x y z))) (ok x y z) r):SB as (Xu (Q2i i fa fb) g') δ (oe.bind fun x=>(of x).bind fun y=>(q x y).bind fun z=>ok x y z) r:=fun v hv'=>by
 obtain ⟨x,hx,hv'⟩:=V5 hv'
 obtain ⟨y,hy,hv'⟩:=V5 hv'
 obtain ⟨z,hz',hv'⟩:=V5 hv'
 have ho:Q50 i (re x).2 = some (d0 x):=by unfold Q50; rw [h0 x]
 have ho2:Q50 i (rf x y).2 = some (dd x y):=by unfold Q50; rw [hd x y]
 rw [Wv (δ1:=(rf x y).2.set i (.ow (e x y z)))]
 ·exact k x y z v hv'
 ·unfold Q2i
  rw [hv x hx,Q1,ho,Q1,hk x y hy,Q1,ho2,Q1,hz x y z hz']
  rfl

@[irreducible] def rngK (n:Int):List Int:=Q3i 0 n.toNat
theorem Qco (n:Int):rngK n = Q3i 0 n.toNat:=by unfold rngK; rfl
theorem Qgm {j:Int} {δ:List Sl} {fr:List Sl → Option (List D × List Sl)} (h:AP fr δ [.int j]) (hj:Zx j = true:=by decide):AP (Q4a fr) δ ((rngK j).map Q0):=by
 rw [Qco]
 exact Qdf h hj
end Z
namespace Z
open PySem PySem.Spec PyProof.Rows L2
section
variable {α β:Type}
structure Kx (e:α → D) (ke:α → NestedKey):Prop where
 nk:∀ a,Q49 (e a) = some (ke a)
 inj:∀ a b,ke a = ke b → a = b
 ok:∀ xs:List α,okB (xs.map e) = true
variable {e:α → D} {ke:α → NestedKey} [DecidableEq α]
end

end Z
namespace Z
open PySem PySem.Spec PyProof.Rows L2
end Z
namespace Z
open PySem PySem.Spec PyProof.Rows L2
end Z
namespace Z
open PySem PySem.Spec PyProof.Rows L2
end Z
namespace Z
open PySem PySem.Spec PyProof.Rows L2

theorem Qd9 {α:Type} {e:α → D} (xs:List α):Qdy (eLi e xs) = some (eLi e xs.reverse):=by
 unfold Qdy eLi
 rw [List.map_reverse]
end Z
namespace Z
open PySem PySem.Spec PyProof.Rows L2
end Z
namespace Z
open PySem PySem.Spec PyProof.Rows L2
end Z
namespace Z
open PySem PySem.Spec PyProof.Rows L2
def gd (g:List Sl → Bool) (f:List Sl → Option (D × List Sl)):List Sl → Option (D × List Sl):=fun δ=>if g δ = true then f δ else none
structure CF (K:PySem.W.Frag) (c f:Str):Prop where
 ex:∀ C,Q0r K c C → Cls K C ∧ NoAttr K C f
structure Rc (X:Cx) (i:Nat) (o:Expr) (g:List Sl → Bool):Prop where
 ex:∃ t,PE X o t ∧ ∀ (Y:Fx) (F H:Hp) (δ:List Sl) (σ:L2.St) (A:Nat → List Addr),SR X.K Y F H δ σ A → g δ = true → ∀ (v:V) (Q:VK),σ[i]? = some (some v) → Q v H → t σ H Q
def gT:List Sl → Bool:=fun _=>true
section
variable {X:Cx} {pos:Pos}
theorem Nm.rc {i:Nat} {x:Str} {p:Pos} (n:Nm X i x):Rc X i (.Name x p) gT:=⟨_,n.pe,fun Y F H δ σ A S _ v Q e q=>⟨v,e,q⟩⟩
end
end Z
namespace Z
open PySem PySem.Spec PyProof.Rows L2
def GE (X:Cx) (σ σ':L2.St):Prop:=σ'.length = σ.length ∧ ∀ (i:Nat) (x:Str),X.N[i]? = some x → Vis X.env.scope x → σ'[i]? = σ[i]?
theorem GE.refl {X:Cx} (σ:L2.St):GE X σ σ:=⟨rfl,fun _ _ _ _=>rfl⟩
theorem GE.symm {X:Cx} {σ σ':L2.St} (h:GE X σ σ'):GE X σ' σ:=⟨h.1.symm,fun i x a b=>(h.2 i x a b).symm⟩
theorem Qa3 {X:Cx} {pins:List (Addr × Obj)} {σ σ':L2.St} {H:Hp} {s:Shared} (I:L2.Inv X pins σ H s) (g:GE X σ σ'):L2.Inv X pins σ' H s:=by
 refine ⟨I.ok,I.os,I.bare,I.base,?_,I.cell,I.free,I.freeC,I.pin,I.hok,g.1.trans I.len⟩
 obtain ⟨m,h1,h2⟩:=I.loc
 refine ⟨m,h1,fun i x v e1 e2 e3=>h2 i x v e1 ?_ e3⟩
 rw [← g.2 i x e1 e3]
 exact e2
def Qfg (X:Cx) (D:Ends):Ends:={ nx:=fun σ2 H2=>∃ σ3,GE X σ2 σ3 ∧ D.nx σ3 H2,rt:=D.rt,bk:=fun σ2 H2=>∃ σ3,GE X σ2 σ3 ∧ D.bk σ3 H2,ct:=fun σ2 H2=>∃ σ3,GE X σ2 σ3 ∧ D.ct σ3 H2 }
def tsG (X:Cx) (t:TS):TS:=fun D σ H=>∃ σ1,GE X σ σ1 ∧ t (Qfg X D) σ1 H
theorem QeI {X:Cx} {pins:List (Addr × Obj)} {D:Ends} {fl:Flow} {s:Shared} (h:L2.SP X pins (Qfg X D) fl s):L2.SP X pins D fl s:=by
 cases fl with
 | next=>obtain ⟨σ',H',I,σ3,g,q⟩:=h; exact ⟨σ3,H',Qa3 I g,q⟩
 | brk=>obtain ⟨σ',H',I,σ3,g,q⟩:=h; exact ⟨σ3,H',Qa3 I g,q⟩
 | cont=>obtain ⟨σ',H',I,σ3,g,q⟩:=h; exact ⟨σ3,H',Qa3 I g,q⟩
 | ret u=>exact h
theorem Qid {X:Cx} {st:List Stmt} {t:TS} (h:PSs X st t):PSs X st (tsG X t):=by
 refine ⟨fun pins s σ H D I hw=>?_⟩
 obtain ⟨σ1,g,hw⟩:=hw
 exact wpAny_mono (h.run pins s σ1 H _ (Qa3 I g) hw) (fun fl s2 hs=>QeI hs) (fun _ _ hs=>hs)
inductive Rs where
 | ok (d:D)
 | ex (c:Str)
inductive FrO where
 | f (fr:Fr)
 | o (c:Str) (sh:List (Str × Bool))
def QiP (K:PySem.W.Frag) (F H:Hp):List (Str × Bool) → List (Str × V) → List D → List Addr → Prop
 | [],[],[],L=>L = []
 | (f,false) :: sh,(g,v) :: fv,d :: ds,L=>g = f ∧ Rp K F v d ∧ QiP K F H sh fv ds L
 | (f,true) :: sh,(g,v) :: fv,d :: ds,L=>∃ q L',v = .ref q ∧ L = q :: L' ∧ g = f ∧ Q0n K F H q d ∧ QiP K F H sh fv ds L'
 | _,_,_,_=>False
def Qi1 (K:PySem.W.Frag) (F H:Hp) (fresh:Addr → Prop) (c:Str) (sh:List (Str × Bool)) (v:V) (d:D):Prop :=
 ∃ p dx C fvs ds L,v = .ref p ∧ d = .tuple ds ∧ Q0r K c C ∧ H p = some (.ins C dx fvs) ∧ H dx = some (.own p) ∧ (p :: dx :: L).Nodup ∧ (∀ a ∈ p :: dx :: L,fresh a ∧ F a = none) ∧ QiP K F H sh fvs ds L
def Qie (K:PySem.W.Frag) (Y:Fx) (fr:FrO) (F H:Hp) (A:Nat → List Addr) (v:V) (d:D):Prop :=
 match fr with
 | .f fr=>Qkp K Y fr F H A v d
 | .o c sh=>Qi1 K F H (fun a=>Y.H0 a = none) c sh v d
def Qks (K:PySem.W.Frag) (A:Nat → List Addr) (fr:FrO) (H F' H':Hp) (v:V) (d:D):Prop :=
 match fr with
 | .f fr=>Ret K A fr H F' H' v d
 | .o c sh=>Qi1 K F' H' (fun a=>H a = none) c sh v d
def Fx.args (n:Nat):Fx:=⟨Iom.of fun i=>decide (n ≤ i),fun _=>false,fun i=>decide (n ≤ i),fun _=>none,fun _=>none,[],fun _=>[],fun _ _=>rfl⟩
structure QgI (A:Nat → List Addr) (mv:Nat → Bool) (N:Nat) (F H F' H':Hp):Prop where
 f:Same F F'
 nw:∀ a,F a = none → F' a ≠ none → H a = none ∨ ∃ j,mv j = true ∧ a ∈ A j
 kp:∀ a o,H a = some o → (∀ i,i < N → a ∉ A i) → H' a = some o
structure MvR (A A':Nat → List Addr) (mv:Nat → Bool) (H:Hp) (σ σ':L2.St):Prop where
 len:σ'.length = σ.length
 eq:∀ i,mv i = false → σ'[i]? = σ[i]? ∧ A' i = A i
 mv:∀ i a,mv i = true → a ∈ A' i → (∃ j,mv j = true ∧ a ∈ A j) ∨ H a = none
theorem MvR.same {A A':Nat → List Addr} {H:Hp} {σ σ':L2.St} (h:MvR A A' (fun _=>false) H σ σ'):σ' = σ ∧ A' = A :=
 ⟨List.ext_getElem? fun i=>(h.eq i rfl).1,funext fun i=>(h.eq i rfl).2⟩
def spX (K:PySem.W.Frag) (n m:Nat) (mv:Nat → Bool) (fr:FrO) (φ:List Sl → Option (Rs × List Sl)):Sp:=fun us H Q E =>
 ∃ (F:Hp) (as:List Sl) (A:Nat → List Addr) (τ:L2.St),us.length = n ∧ τ.length = m ∧ as.length = n + m ∧ SR K (Fx.args n) F H as (us.map some ++ τ) A ∧ ∃ r outs,φ as = some (r,outs) ∧
  ∀ F' H' σ' A',QgI A mv (n + m) F H F' H' → MvR A A' mv H (us.map some ++ τ) σ' → SR K (Fx.args n) F' H' outs σ' A' →
   match r with
   | .ok d=>∀ v,Qks K A fr H F' H' v d → Q v H'
   | .ex c=>∀ C,Q0r K c C → E (.ref C) none H'
theorem QgU {K:PySem.W.Frag} {n m:Nat} {mv} {fr:FrO} {φ} {us:List V} {H:Hp} {Q:VK} {E:XK} (h:spX K n m mv fr φ us H Q E):us.length = n:=by
 obtain ⟨F,as,A,τ,h1,_⟩:=h
 exact h1
inductive Ox where
 | o (o:Out)
 | ex (c:Str) (δ:List Sl)
def Q8J (X:Cx) (Y:Fx) (fr:FrO) (W:WX) (F:Hp) (D:Ends):Ox → Prop
 | .o (.nx δ')=>∀ σ' F' H' A',Same F F' → SR X.K Y F' H' δ' σ' A' → D.nx σ' H'
 | .o (.ct δ')=>∀ σ' F' H' A',Same F F' → SR X.K Y F' H' δ' σ' A' → D.ct σ' H'
 | .o (.rt d δ')=>∀ v σ' F' H' A',Same F F' → SR X.K Y F' H' δ' σ' A' → Qie X.K Y fr F' H' A' v d → D.rt v H'
 | .ex c δ'=>∀ σ0 σ' F' H' A' C,Same F F' → GE X σ0 σ' → SR X.K Y F' H' δ' σ' A' → Q0r X.K c C → W (.ref C) none σ0 H'
def SX (X:Cx) (W:WX) (io:Iom) (vt:Nat → Bool) (fr:FrO) (st:Stmt) (g:List Sl → Option Ox):Prop :=
 ∃ t,PS X st t ∧ ∀ (Y:Fx) (F H:Hp) (δ:List Sl) (σ:L2.St) (A:Nat → List Addr),Y.io = io → (∀ i,vt i = true → Y.vt i = true ∧ Y.lt i = false) → SR X.K Y F H δ σ A → ∀ (o:Ox),g δ = some o → ∀ D:Ends,Q8J X Y fr W F D o → t D σ H
def BX (X:Cx) (W:WX) (io:Iom) (vt:Nat → Bool) (fr:FrO) (st:List Stmt) (g:List Sl → Option Ox):Prop :=
 ∃ t,PSs X st t ∧ ∀ (Y:Fx) (F H:Hp) (δ:List Sl) (σ:L2.St) (A:Nat → List Addr),Y.io = io → (∀ i,vt i = true → Y.vt i = true ∧ Y.lt i = false) → SR X.K Y F H δ σ A → ∀ (o:Ox),g δ = some o → ∀ D:Ends,Q8J X Y fr W F D o → t D σ H
theorem Q8J.mono {X:Cx} {Y:Fx} {fr:FrO} {W:WX} {F F':Hp} {D:Ends} {o:Ox} (h:Q8J X Y fr W F D o) (s:Same F F'):Q8J X Y fr W F' D o:=by
 cases o with
 | o o =>
  cases o with
  | nx δ=>exact fun σ' F1 H' A' s1=>h σ' F1 H' A' (s.trans s1)
  | ct δ=>exact fun σ' F1 H' A' s1=>h σ' F1 H' A' (s.trans s1)
  | rt d δ=>exact fun v σ' F1 H' A' s1=>h v σ' F1 H' A' (s.trans s1)
 | ex c δ=>exact fun σ0 σ' F1 H' A' C s1=>h σ0 σ' F1 H' A' C (s.trans s1)
def xS (g:List Sl → Option Out):List Sl → Option Ox:=fun δ=>(g δ).bind fun o=>match o with
 | .rt _ _=>none
 | o=>some (.o o)
def xR (g:List Sl → Option Out):List Sl → Option Ox:=fun δ=>(g δ).map .o
def Yk (g g':List Sl → Option Ox):List Sl → Option Ox:=fun δ=>(g δ).bind fun o=>match o with
 | .o (.nx δ1)=>g' δ1
 | x=>some x
section
variable {X:Cx} {W:WX} {io:Iom} {vt:Nat → Bool} {fr:FrO} {st:Stmt} {rest:List Stmt} {pos:Pos} {g g':List Sl → Option Ox}
theorem Q9o {g0:List Sl → Option Out} (h:SV X io .n st g0):SX X W io vt fr st (xS g0):=by
 obtain ⟨t,p,q⟩:=h
 refine ⟨t,p,fun Y F H δ σ A hY hv S o e D k=>?_⟩
 unfold xS at e
 cases e1:g0 δ with
 | none=>rw [e1] at e; cases e
 | some o1 =>
  rw [e1] at e
  refine q Y F H δ σ A hY S o1 e1 D ?_
  cases o1 with
  | nx δ1=>cases e; exact k
  | ct δ1=>cases e; exact k
  | rt d δ1=>cases e
theorem Qec {f0:Fr} {g0:List Sl → Option Out} (h:SV X io f0 st g0):SX X W io vt (.f f0) st (xR g0):=by
 obtain ⟨t,p,q⟩:=h
 refine ⟨t,p,fun Y F H δ σ A hY hv S o e D k=>?_⟩
 unfold xR at e
 cases e1:g0 δ with
 | none=>rw [e1] at e; cases e
 | some o1 =>
  rw [e1] at e
  cases e
  refine q Y F H δ σ A hY S o1 e1 D ?_
  cases o1 with
  | nx δ1=>exact k
  | ct δ1=>exact k
  | rt d δ1=>exact k
theorem K9:BX X W io vt fr [] (xS Ym):=by
 refine ⟨_,pss_nil,fun Y F H δ σ A _ _ S o e D k=>?_⟩
 cases e
 exact k σ F H A (Same.refl _) S
theorem Qcy {vs:List Nat} (hio:vs.all (fun i=>!io i) = true):BX X W io vt fr [] (xS (Q08 vs)):=by
 refine ⟨_,pss_nil,fun Y F H δ σ A hY _ S o e D k=>?_⟩
 obtain ⟨A',S'⟩:=S.wipeAll (vs:=vs) fun i hi=>by
  rw [hY]
  have:=Qe.mp hio i hi
  simpa using this
 cases e
 exact k σ F H A' (Same.refl _) S'
theorem V9 (h1:SX X W io vt fr st g) (h2:BX X W io vt fr rest g'):BX X W io vt fr (st :: rest) (Yk g g'):=by
 obtain ⟨t,p,q⟩:=h1
 obtain ⟨t2,p2,q2⟩:=h2
 refine ⟨_,pss_cons p p2,fun Y F H δ σ A hY hv S o e D k=>?_⟩
 unfold Yk at e
 cases e1:g δ with
 | none=>rw [e1] at e; cases e
 | some o1 =>
  rw [e1] at e
  refine q Y F H δ σ A hY hv S o1 e1 _ ?_
  cases o1 with
  | o o2 =>
   cases o2 with
   | nx δ1=>exact fun σ' F' H' A' s S'=>q2 Y F' H' δ1 σ' A' hY hv S' o e D (k.mono s)
   | ct δ1=>cases e; exact k
   | rt d δ1=>cases e; exact k
  | ex c δ1=>cases e; exact k
def Q48 (c:List Sl → Option (Bool × List Sl)) (g g':List Sl → Option Ox):List Sl → Option Ox:=fun δ=>(c δ).bind fun p=>match p.1 with | true=>g p.2 | false=>g' p.2
theorem Q6j {c:Expr} {a b:List Stmt} {gc} {M:List Nat} (hc:TV X c gc M) (ha:BX X W io vt fr a g) (hb:BX X W io vt fr b g'):SX X W io vt fr (.If c a b pos) (Q48 gc g g'):=by
 obtain ⟨t,p,q⟩:=hc
 obtain ⟨ta,pa,qa⟩:=ha
 obtain ⟨tb,pb,qb⟩:=hb
 refine ⟨_,ps_if p pa pb,fun Y F H δ σ A hY hv S o e D k=>?_⟩
 unfold Q48 at e
 cases e1:gc δ with
 | none=>rw [e1] at e; cases e
 | some w =>
  obtain ⟨b0,δ1⟩:=w
  rw [e1] at e
  simp only [Q1] at e
  refine q Y F H δ σ A S b0 δ1 e1 _ fun F1 H1 st S1=>?_
  cases b0 with
  | true =>
   rw [if_pos rfl]
   exact qa Y F1 H1 δ1 σ A hY hv S1 o e D (k.mono st.f)
  | false =>
   rw [if_neg X0]
   exact qb Y F1 H1 δ1 σ A hY hv S1 o e D (k.mono st.f)
end
end Z
namespace Z
open PySem PySem.Spec PyProof.Rows L2
def Qgl:Sl → Bool
 | .no=>true
 | _=>false
def Qkl (a b:Sl):Bool:=match a with
 | .ob c fs=>match b with
  | .ob c' fs'=>(c == c') && (fs == fs')
  | _=>false
 | _=>Q0V b
def Q0E:Nat → List Sl → List Sl → Option (List Sl)
 | _,[],_=>some []
 | 0,_ :: r,b :: s=>if Qgl b then none else (Q0E 0 r s).map (b :: ·)
 | n + 1,a :: r,b :: s=>if Z6 a then if Qkl a b then (Q0E n r s).map (b :: ·) else none else (Q0E n r s).map (a :: ·)
 | _,_ :: _,[]=>none
def QcX (n:Nat) (as:List Sl):Bool:=as.all fun s=>match s with
 | .ob _ fs=>fs.all fun q=>decide (n ≤ q.2) && decide (q.2 < as.length)
 | _=>true
def okX (sg:List Bool) (n:Nat) (as:List Sl):Bool:=decide (as.length = sg.length) && decide ((as.take n).map Z6 = sg.take n) && QcX n as
def Q3O (k t:Nat) (vl:List Nat):List Sl:=(Jj (t - k)).map fun j=>if vl.contains (k + j) then .ab else .no
def Q7T (n:Nat) (as δ:List Sl):Option (List Sl):=(Q0E n as δ).bind fun o=>if QcX n o then some o else none
def fnX (sg:List Bool) (n t:Nat) (vl:List Nat) (fr:FrO) (g:List Sl → Option Ox):List Sl → Option (Rs × List Sl):=fun as =>
 if okX sg n as then
  match g (as ++ Q3O sg.length t vl) with
  | some (.o (.rt d δ))=>(Q7T n as δ).map fun o=>(.ok d,o)
  | some (.o (.nx δ))=>match fr with
   | .f .n=>(Q7T n as δ).map fun o=>(.ok .none,o)
   | _=>none
  | some (.ex c δ)=>(Q7T n as δ).map fun o=>(.ex c,o)
  | _=>none
 else none
theorem Q0L:∀ {n:Nat} {as δ o:List Sl},Q0E n as δ = some o → o.length = as.length
 | 0,[],_,_,h=>by cases h; rfl
 | _ + 1,[],_,_,h=>by cases h; rfl
 | 0,a :: r,b :: s,o,h=>by
  unfold Q0E at h
  split at h
  ·cases h
  ·obtain ⟨z,e,rfl⟩:=Ql.mp h
   exact congrArg (· + 1) (Q0L e)
 | n + 1,a :: r,b :: s,o,h=>by
  unfold Q0E at h
  split at h
  ·split at h
   ·obtain ⟨z,e,rfl⟩:=Ql.mp h
    exact congrArg (· + 1) (Q0L e)
   ·cases h
  ·obtain ⟨z,e,rfl⟩:=Ql.mp h
   exact congrArg (· + 1) (Q0L e)
 | 0,_ :: _,[],_,h=>by cases h
 | _ + 1,_ :: _,[],_,h=>by cases h
theorem Q0B:∀ {n:Nat} {as δ o:List Sl} {i:Nat} {a:Sl},Q0E n as δ = some o → as[i]? = some a →
  (i < n ∧ Z6 a = true ∧ ∃ b,δ[i]? = some b ∧ Qkl a b = true ∧ o[i]? = some b) ∨ (i < n ∧ Z6 a = false ∧ o[i]? = some a) ∨ (n ≤ i ∧ ∃ b,δ[i]? = some b ∧ Qgl b = false ∧ o[i]? = some b)
 | 0,[],_,_,_,_,_,e=>by simp at e
 | _ + 1,[],_,_,_,_,_,e=>by simp at e
 | 0,a :: r,b :: s,o,i,c,h,e=>by
  unfold Q0E at h
  split at h
  ·cases h
  ·rename_i hb
   obtain ⟨z,e1,rfl⟩:=Ql.mp h
   cases i with
   | zero=>exact .inr (.inr ⟨Jf _,b,rfl,by simpa using hb,rfl⟩)
   | succ i =>
    rcases Q0B (i:=i) e1 e with ⟨h1,_⟩ | ⟨h1,_⟩ | ⟨_,h2⟩
    ·omega
    ·omega
    ·exact .inr (.inr ⟨Jo _,h2⟩)
 | n + 1,a :: r,b :: s,o,i,c,h,e=>by
  unfold Q0E at h
  split at h
  ·rename_i ha
   split at h
   ·rename_i hb
    obtain ⟨z,e1,rfl⟩:=Ql.mp h
    cases i with
    | zero=>cases e; exact .inl ⟨by omega,ha,b,rfl,hb,rfl⟩
    | succ i =>
     rcases Q0B (i:=i) e1 e with ⟨h1,h2⟩ | ⟨h1,h2⟩ | ⟨h1,h2⟩
     ·exact .inl ⟨by omega,h2⟩
     ·exact .inr (.inl ⟨by omega,h2⟩)
     ·exact .inr (.inr ⟨by omega,h2⟩)
   ·cases h
  ·rename_i ha
   obtain ⟨z,e1,rfl⟩:=Ql.mp h
   cases i with
   | zero=>cases e; exact .inr (.inl ⟨by omega,by simpa using ha,rfl⟩)
   | succ i =>
    rcases Q0B (i:=i) e1 e with ⟨h1,h2⟩ | ⟨h1,h2⟩ | ⟨h1,h2⟩
    ·exact .inl ⟨by omega,h2⟩
    ·exact .inr (.inl ⟨by omega,h2⟩)
    ·exact .inr (.inr ⟨by omega,h2⟩)
 | 0,_ :: _,[],_,_,_,h,_=>by cases h
 | _ + 1,_ :: _,[],_,_,_,h,_=>by cases h
theorem Qbl {n:Nat} {as:List Sl} (h:QcX n as = true) {i:Nat} {c:Str} {fs:List (Str × Nat)} (e:as[i]? = some (Sl.ob c fs)):∀ q ∈ fs,n ≤ q.2 ∧ q.2 < as.length:=fun q hq=>by
 have:=Qe.mp h _ (Jq e)
 have:=Qe.mp this q hq
 simpa using this
open Classical in
/-- the heap of the entry,without what may be given anew -/
noncomputable def Q95 (B:Nat → List Addr) (mv:Nat → Bool) (H:Hp):Hp:=fun a=>if ∃ j,mv j = true ∧ a ∈ B j then none else H a
theorem Qed {B:Nat → List Addr} {mv:Nat → Bool} {H:Hp} {a:Addr} {o:HO} (h:Q95 B mv H a = some o):H a = some o ∧ ¬ ∃ j,mv j = true ∧ a ∈ B j:=by
 unfold Q95 at h
 split at h
 ·cases h
 ·rename_i c; exact ⟨h,c⟩
theorem Q3X {B:Nat → List Addr} {mv:Nat → Bool} {H:Hp} {a:Addr} (h:Q95 B mv H a = none):(∃ j,mv j = true ∧ a ∈ B j) ∨ H a = none:=by
 unfold Q95 at h
 split at h
 ·rename_i c; exact .inl c
 ·exact .inr h
theorem Qgt {B:Nat → List Addr} {mv:Nat → Bool} {H:Hp} {a:Addr} {o:HO} (h:H a = some o) (n:¬ ∃ j,mv j = true ∧ a ∈ B j):Q95 B mv H a = some o:=by
 unfold Q95
 rw [if_neg n]
 exact h
theorem Qhb {B:Nat → List Addr} {mv:Nat → Bool} {H:Hp} {a:Addr} {j:Nat} (h:mv j = true) (m:a ∈ B j):Q95 B mv H a = none:=by
 unfold Q95
 rw [if_pos ⟨j,h,m⟩]
noncomputable def Fx.body (sg:List Bool) (n:Nat) (vl:List Nat) (mv:Nat → Bool) (H F:Hp) (σ:L2.St) (B:Nat → List Addr):Fx :=
 ⟨⟨fun i=>Ka sg i || vl.contains i,fun i=>mv i || vl.contains i⟩,fun i=>Ka sg i && !(mv i || vl.contains i),fun i=>(decide (n ≤ i) && decide (i < sg.length)) || vl.contains i,Q95 B mv H,F,σ,B,fun i h=>by
  have h:(mv i || vl.contains i) = true:=h
  rw [h]; simp⟩
def stX (us:List V) (τ:L2.St) (t:Nat):L2.St:=us.map some ++ τ ++ Qn (t - (us.length + τ.length)) none
structure XOk (sg:List Bool) (n m t:Nat) (vl:List Nat) (mv:Nat → Bool):Prop where
 len:sg.length = n + m
 le:n + m ≤ t
 vs:∀ i,n ≤ i → i < n + m → Ka sg i = true
 vl:∀ i,vl.contains i = true → n + m ≤ i ∧ i < t
 mv:∀ i,mv i = true → n ≤ i ∧ i < n + m
section
variable {K:PySem.W.Frag} {F H F' H':Hp} {as:List Sl} {us:List V} {τ:L2.St} {A:Nat → List Addr} {sg:List Bool} {n m t:Nat} {vl:List Nat} {mv:Nat → Bool}
theorem Q71 (h:okX sg n as = true) (hk:XOk sg n m t vl mv) {i:Nat} {a:Sl} (e:as[i]? = some a) (hi:i < n):Ka sg i = Z6 a:=by
 unfold okX at h
 simp only [Q5,decide_eq_true_eq] at h
 have:=congrArg (fun l=>l[i]?) h.1.2
 simp only [Qp,List.getElem?_take,if_pos hi,e,Qi] at this
 unfold Ka
 rw [Jp,← this]
 rfl
theorem Q97 {i:Nat} (h:Ka sg i = true):i < sg.length:=by
 cases Nat.lt_or_ge i sg.length with
 | inl h=>exact h
 | inr c =>
  unfold Ka at h
  rw [Jp,Qz c] at h
  cases h
theorem Q5S {k:Nat} {i:Nat} {s:Sl} (h:(Q3O k t vl)[i]? = some s):s = .ab ∧ vl.contains (k + i) = true ∨ s = .no ∧ vl.contains (k + i) = false:=by
 unfold Q3O at h
 rw [Qp] at h
 cases e:(Jj (t - k))[i]? with
 | none=>rw [e] at h; cases h
 | some j =>
  rw [e] at h
  have:j = i:=by
   rw [List.getElem?_range (by
    have:=(Q8.mp e).1
    rwa [List.length_range] at this)] at e
   exact (Ja.inj e).symm
  subst this
  cases c:vl.contains (k + j) with
  | true=>simp only [Qi,c] at h; cases h; exact .inl ⟨rfl,rfl⟩
  | false=>simp only [Qi,c] at h; cases h; exact .inr ⟨rfl,rfl⟩
theorem Q3Z {i:Nat} (hi:i < us.length + τ.length):(stX us τ t)[i]? = (us.map some ++ τ)[i]?:=by
 unfold stX
 rw [Qm (by rw [Qb,Q4]; exact hi)]
theorem Qg5 {fs:List (Str × Nat)} (h:∀ q ∈ fs,q.2 < us.length + τ.length):Q4U (stX us τ t) fs = Q4U (us.map some ++ τ) fs:=Q5h fun q hq=>Q3Z (h q hq)
theorem SR.entryX (S:SR K (Fx.args n) F H as (us.map some ++ τ) A) (hk:XOk sg n m t vl mv) (hu:us.length = n) (hτ:τ.length = m) (ha:as.length = n + m) (h:okX sg n as = true) :
  SR K (Fx.body sg n vl mv H F (stX us τ t) A) F H (as ++ Q3O sg.length t vl) (stX us τ t) A:=by
 have ob:QcX n as = true:=by
  unfold okX at h
  simp only [Q5] at h
  exact h.2
 have hsl:=hk.len
 have hle:=hk.le
 have nul:∀ i,n + m ≤ i → A i = []:=fun i hi=>S.out i (Qz (by omega))
 have lf:(Q3O sg.length t vl).length = t - sg.length:=by unfold Q3O; rw [Q4,List.length_range]
 have ls:(stX us τ t).length = t:=by
  unfold stX
  rw [Qb,Qb,Q4,Ju]
  omega
 refine ⟨?_,fun i s e=>?_,fun i e=>?_,S.dis,S.hid,fun i a hia hi=>?_,S.sub,fun i _=>⟨rfl,rfl⟩,fun i hi=>trivial,fun a o e _=>(Qed e).1,fun a e hn=>absurd e hn,Same.refl _,fun i hi=>?_,fun i c fs e=>?_,fun j hj e=>?_⟩
 ·rw [ls,Qb,lf]
  omega
 ·by_cases c:i < as.length
  ·rw [Qm c] at e
   rw [Q3Z (by omega)]
   exact S.slot i s e
  ·rw [J1 (by omega)] at e
   have ai:A i = []:=nul i (by omega)
   have iv:jn (stX us τ t)[i]? = none:=by
    unfold stX
    rw [J1 (by rw [Qb,Q4]; omega),X3]
    split <;> rfl
   rcases Q5S e with ⟨rfl,_⟩ | ⟨rfl,_⟩
   ·exact ⟨ai,iv⟩
   ·exact ai
 ·have:n + m ≤ i:=by
   have:=Jd.mp e
   rw [Qb] at this
   omega
  exact nul i this
 ·by_cases c:i < n + m
  ·have nvl:vl.contains i = false:=by
    cases q:vl.contains i with
    | false=>rfl
    | true=>have:=(hk.vl i q).1; omega
   have hi:(Ka sg i && !(mv i || vl.contains i)) = false:=hi
   rw [nvl,Bool.or_false,Bool.and_eq_false_iff] at hi
   rcases hi with hi | hi
   ·have cn:i < n:=by
     apply Nat.lt_of_not_le
     intro z
     rw [hk.vs i z c] at hi
     cases hi
    obtain ⟨s,es⟩:∃ s,as[i]? = some s:=⟨_,Qa (by omega)⟩
    rw [Q71 h hk es cn] at hi
    rw [Q3L (S.slot i s es) hi] at hia
    simp at hia
   ·exact Qhb (j:=i) (by simpa using hi) hia
  ·rw [nul i (by omega)] at hia
   simp at hia
 ·show (Ka sg i || vl.contains i) = true
  rcases hi with hi | hi
  ·have hi:(Ka sg i && !(mv i || vl.contains i)) = true:=hi
   rw [Q5] at hi
   rw [hi.1,Bool.true_or]
  ·have hi:((decide (n ≤ i) && decide (i < sg.length)) || vl.contains i) = true:=hi
   rw [Jg,Q5,decide_eq_true_eq,decide_eq_true_eq] at hi
   rcases hi with hi | hi
   ·rw [hk.vs i hi.1 (by omega),Bool.true_or]
   ·rw [hi,Bool.or_true]
 ·by_cases c0:i < as.length
  ·rw [Qm c0] at e
   obtain ⟨h1,h2⟩:=S.ob i c fs e
   have hq:=Qbl ob e
   refine ⟨fun q hq'=>?_,fun p C dx fvs e1 e2=>?_⟩
   ·show ((decide (n ≤ q.2) && decide (q.2 < sg.length)) || vl.contains q.2) = true
    rw [decide_eq_true (hq q hq').1,decide_eq_true (show q.2 < sg.length by have:=(hq q hq').2; omega)]
    rfl
   ·rw [Q3Z (by omega)] at e1
    rw [Qg5 fun q hq'=>by have:=(hq q hq').2; omega]
    exact h2 p C dx fvs e1 e2
  ·rw [J1 (by omega)] at e
   rcases Q5S e with ⟨z,_⟩ | ⟨z,_⟩ <;> cases z
 ·have hj:(Ka sg j || vl.contains j) = true:=hj
  rw [Jg] at hj
  by_cases c:j < as.length
  ·rw [Qm c] at e
   by_cases cn:n ≤ j
   ·exact S.vno j (decide_eq_true cn) e
   ·rcases hj with hj | hj
    ·rw [Q71 h hk e (by omega)] at hj
     cases hj
    ·have:=(hk.vl j hj).1
     omega
  ·rw [J1 (by omega)] at e
   rcases hj with hj | hj
   ·have:=Q97 hj
    omega
   ·rcases Q5S e with ⟨z,_⟩ | ⟨_,z⟩
    ·cases z
    ·rw [show sg.length + (j - as.length) = j by omega,hj] at z
     cases z
theorem SR.leaveX {δ' outs:List Sl} {σ':L2.St} {A':Nat → List Addr} (S:SR K (Fx.args n) F H as (us.map some ++ τ) A) (hk:XOk sg n m t vl mv) (hu:us.length = n) (hτ:τ.length = m) (ha:as.length = n + m) (h:okX sg n as = true)
  (S':SR K (Fx.body sg n vl mv H F (stX us τ t) A) F' H' δ' σ' A') (hm:Q7T n as δ' = some outs) :
  ∃ σ'' A'',QgI A mv (n + m) F H F' H' ∧ MvR A A'' mv H (us.map some ++ τ) σ'' ∧ SR K (Fx.args n) F' H' outs σ'' A'':=by
 unfold Q7T at hm
 obtain ⟨o1,hm,ho⟩:=Qt.mp hm
 split at ho
 case isFalse=>cases ho
 rename_i hob
 cases ho
 have hsl:=hk.len
 have lo:=Q0L hm
 have fixed:∀ i,Ka sg i = true → mv i = false → σ'[i]? = (stX us τ t)[i]? ∧ A' i = A i:=fun i h1 h2=>S'.fix i (by
  have nvl:vl.contains i = false:=by
   cases q:vl.contains i with
   | false=>rfl
   | true=>have:=(hk.vl i q).1; have:=Q97 h1; omega
  show (Ka sg i && !(mv i || vl.contains i)) = true; rw [h1,h2,nvl]; rfl)
 have nul:∀ i,n + m ≤ i → A i = []:=fun i hi=>S.out i (Qz (by omega))
 have nmv:∀ i,i < n → mv i = false:=fun i hi=>by
  cases c:mv i with
  | false=>rfl
  | true=>have:=(hk.mv i c).1; omega
 let σ'':L2.St:=us.map some ++ ((σ'.drop n).take m)
 let A'':Nat → List Addr:=fun i=>if i < n then A i else if i < n + m then A' i else []
 have lδ:n + m ≤ δ'.length:=by
  have:∀ {k:Nat} {as δ o:List Sl},Q0E k as δ = some o → as.length ≤ δ.length:=by
   intro k as
   induction as generalizing k with
   | nil=>intro δ o _; exact Jo _
   | cons a r ih =>
    intro δ o h
    cases δ with
    | nil=>cases k <;> cases h
    | cons b s =>
     cases k with
     | zero =>
      unfold Q0E at h
      split at h
      ·cases h
      ·obtain ⟨z,e,_⟩:=Ql.mp h
       exact Nat.succ_le_succ (ih e)
     | succ k =>
      unfold Q0E at h
      split at h
      ·split at h
       ·obtain ⟨z,e,_⟩:=Ql.mp h
        exact Nat.succ_le_succ (ih e)
       ·cases h
      ·obtain ⟨z,e,_⟩:=Ql.mp h
       exact Nat.succ_le_succ (ih e)
  rw [← ha]
  exact this hm
 have lσ:n + m ≤ σ'.length:=by rw [← S'.len]; exact lδ
 have σv:∀ i,n ≤ i → i < n + m → σ''[i]? = σ'[i]?:=fun i h1 h2=>by
  show (us.map some ++ ((σ'.drop n).take m))[i]? = _
  rw [J1 (by rw [Q4]; omega),List.getElem?_take,List.getElem?_drop,Q4,if_pos (by omega),show n + (i - us.length) = i by omega]
 have σu:∀ i,i < n → σ''[i]? = (us.map some ++ τ)[i]?:=fun i h1=>by
  show (us.map some ++ ((σ'.drop n).take m))[i]? = _
  rw [Qm (by rw [Q4]; omega),Qm (by rw [Q4]; omega)]
 have l'':σ''.length = n + m:=by
  show (us.map some ++ ((σ'.drop n).take m)).length = _
  rw [Qb,Q4,Jr,Xf]
  omega
 have Ain:∀ i a,a ∈ A'' i → a ∈ A' i:=fun i a z=>by
  have z:a ∈ (if i < n then A i else if i < n + m then A' i else []):=z
  split at z
  ·rename_i c
   obtain ⟨s,es⟩:∃ s,as[i]? = some s:=⟨_,Qa (by omega)⟩
   cases q:Z6 s with
   | false=>rw [Q3L (S.slot i s es) q] at z; simp at z
   | true=>rw [(fixed i (by rw [Q71 h hk es c]; exact q) (nmv i c)).2]; exact z
  ·split at z
   ·exact z
   ·simp at z
 refine ⟨σ'',A'',⟨S'.f0,fun a e hn=>(Q3X (S'.nw a e hn)).symm,fun a o e hn=>?_⟩,⟨by rw [l'',Qb,Q4]; omega,fun i hi=>?_,fun i a hi hia=>?_⟩,
  ⟨by rw [lo,l'',ha],fun i s e=>?_,fun i e=>?_,fun i j a h1 h2=>S'.dis i j a (Ain i a h1) (Ain j a h2),fun i a h1=>S'.hid i a (Ain i a h1),fun _ _ _ _=>rfl,S'.sub,fun _ z=>(by cases z),fun _ _=>trivial,fun _ _ z=>(by cases z),fun _ _ _=>rfl,fun _ _ z=>(by cases z),fun i z=>z.elim (fun z=>(by cases z)) id,fun i c fs e=>?_,fun j hj e=>?_⟩⟩
 ·refine S'.kp a o (Qgt e fun ⟨j,h1,h2⟩=>hn j (hk.mv j h1).2 h2) fun i hi=>hn i ?_
  have hi:(Ka sg i && !(mv i || vl.contains i)) = true:=hi
  rw [Q5] at hi
  have:=Q97 hi.1
  omega
 ·by_cases c:i < n
  ·exact ⟨σu i c,if_pos c⟩
  ·by_cases c2:i < n + m
   ·obtain ⟨f1,f2⟩:=fixed i (hk.vs i (by omega) c2) hi
    refine ⟨?_,?_⟩
    ·rw [σv i (by omega) c2,f1,Q3Z (by omega)]
    ·show (if i < n then A i else if i < n + m then A' i else []) = _
     rw [if_neg c,if_pos c2,f2]
   ·refine ⟨?_,?_⟩
    ·rw [Qz (by omega),Qz (by rw [Qb,Q4]; omega)]
    ·show (if i < n then A i else if i < n + m then A' i else []) = _
     rw [if_neg c,if_neg c2,nul i (by omega)]
 ·have:=Ain i a hia
  exact Q3X (S'.new i a this (by show (Ka sg i && !(mv i || vl.contains i)) = false; rw [hi]; simp))
 ·have hi:i < as.length:=by rw [← lo]; exact (Q8.mp e).1
  obtain ⟨a,ea⟩:∃ a,as[i]? = some a:=⟨_,Qa hi⟩
  rcases Q0B hm ea with ⟨h1,h2,b,h3,h4,h5⟩ | ⟨h1,h2,h3⟩ | ⟨h1,b,h2,h3,h4⟩
  ·rw [e] at h5
   cases h5
   obtain ⟨f1,f2⟩:=fixed i (by rw [Q71 h hk ea h1]; exact h2) (nmv i h1)
   have q:=S'.slot i s h3
   rw [f1,f2,Q3Z (by omega)] at q
   rw [σu i h1,show A'' i = A i from if_pos h1]
   exact q
  ·rw [e] at h3
   cases h3
   have q:=S.slot i s ea
   have nA:=Q3L q h2
   rw [σu i h1,show A'' i = A i from if_pos h1]
   exact q.mono S'.f0 fun a ha=>by rw [nA] at ha; simp at ha
  ·rw [e] at h4
   cases h4
   rw [σv i h1 (by omega),show A'' i = A' i from (if_neg (by omega)).trans (if_pos (by omega))]
   exact S'.slot i s h2
 ·have hi:n + m ≤ i:=by
   have:=Jd.mp e
   omega
  exact (if_neg (by omega)).trans (if_neg (by omega))
 ·have hi:i < as.length:=by rw [← lo]; exact (Q8.mp e).1
  have hin:=Qbl hob e
  obtain ⟨a,ea⟩:∃ a,as[i]? = some a:=⟨_,Qa hi⟩
  have key:δ'[i]? = some (Sl.ob c fs) ∧ jn σ''[i]? = jn σ'[i]?:=by
   rcases Q0B hm ea with ⟨h1,h2,b,h3,h4,h5⟩ | ⟨h1,h2,h3⟩ | ⟨h1,b,h2,h3,h4⟩
   ·rw [e] at h5
    cases h5
    obtain ⟨f1,f2⟩:=fixed i (by rw [Q71 h hk ea h1]; exact h2) (nmv i h1)
    exact ⟨h3,by rw [σu i h1,f1,Q3Z (by omega)]⟩
   ·rw [e] at h3
    cases h3
    cases h2
   ·rw [e] at h4
    cases h4
    exact ⟨h2,by rw [σv i h1 (by omega)]⟩
  obtain ⟨k1,k2⟩:=S'.ob i c fs key.1
  refine ⟨fun q hq=>decide_eq_true (hin q hq).1,fun p C dx fvs e1 e2=>?_⟩
  rw [key.2] at e1
  rw [k2 p C dx fvs e1 e2]
  exact Q5h fun q hq=>(σv q.2 (hin q hq).1 (by have:=(hin q hq).2; omega)).symm
 ·have hj:n ≤ j:=of_decide_eq_true hj
  have hi:j < as.length:=by rw [← lo]; exact (Q8.mp e).1
  obtain ⟨a,ea⟩:∃ a,as[j]? = some a:=⟨_,Qa hi⟩
  rcases Q0B hm ea with ⟨h1,_⟩ | ⟨h1,_⟩ | ⟨h1,b,h2,h3,h4⟩
  ·omega
  ·omega
  ·rw [e] at h4
   cases h4
   cases h3
end
section
variable {P:Program} {w:World} {K:PySem.W.Frag} {mg:Str → Option Value} {base:Heap} {k:Nat} {f:Addr} {fd:FuncData} {ps:List Str}
def Qkw (fr:FrO) (mv:Nat → Bool):Prop:=(fr = .f .n ∨ fr = .f .t) ∨ ((∃ c sh,fr = .o c sh) ∨ fr = .f .l) ∧ ∀ i,mv i = false
theorem QgJ {sg:List Bool} {n m t:Nat} {vl:List Nat} {mv:Nat → Bool} {H F F' H':Hp} {σ:L2.St} {A A':Nat → List Addr} {fr:FrO} {v:V} {d:D} (ok:Qkw fr mv) (h:Qie K (Fx.body sg n vl mv H F σ A) fr F' H' A' v d):Qks K A fr H F' H' v d:=by
 rcases ok with (rfl | rfl) | ⟨⟨c,sh,rfl⟩ | rfl,nm⟩
 ·exact h
 ·exact h
 ·obtain ⟨p,dx,C,fvs,ds,L,h1,h2,h3,h4,h5,h6,h7,h8⟩:=h
  refine ⟨p,dx,C,fvs,ds,L,h1,h2,h3,h4,h5,h6,fun a ha=>⟨?_,(h7 a ha).2⟩,h8⟩
  exact (Q3X (h7 a ha).1).elim (fun ⟨j,z,_⟩=>by rw [nm j] at z; cases z) id
 ·obtain ⟨p,h1,h2,h3,h4,h5⟩:=h
  exact ⟨p,h1,(Q3X h2).elim (fun ⟨j,z,_⟩=>by rw [nm j] at z; cases z) id,h3,h5⟩
theorem Q9j {x qual:Str} {st:Stmt} {N:List Str} {sg:List Bool} {n m:Nat} {vl:List Nat} {mv:Nat → Bool} {fr:FrO} {g:List Sl → Option Ox} (Fu:Fun K x qual st f fd) (S:FnScope N ps (defScope st)) (hn:n = ps.length) (hk:XOk sg n m N.length vl mv) (hfr:Qkw fr mv)
  (hv:∀ (i:Nat) (y:Str),n ≤ i → i < n + m → N[i]? = some y → (defScope st).names.lookup y = none)
  (body:∀ (cd:Value) (A:Around) (out:List Env) (s:Shared) (G:Hp) (E:XK),A.guards = some [] → Room k (A.deeper (envOfC qual (defScope st) s.heap.objs.size f cd)) →
   BX (cxOf (CX P w) P w K mg base N qual (defScope st) f cd A out s G E) (fun cls d _ H=>E cls d H) ⟨fun i=>Ka sg i || vl.contains i,fun i=>mv i || vl.contains i⟩ (fun i=>mv i || vl.contains i) fr (defBody st) g) :
  FnG P w K mg base (CX P w) (k + 1) f fd ps (spX K n m mv fr (fnX sg n N.length vl fr g)):=by
 refine FnG.mk' Fu S (fun us G Q E h=>(QgU h).trans hn) fun cd A out s G us Q E hG hR h=>?_
 obtain ⟨t,p,q⟩:=body cd A out s G E hG hR
 refine ⟨_,Qid p,?_⟩
 obtain ⟨F,as,B,τ,hu,hτ,ha,S0,r,outs,hφ,kk⟩:=h
 have hle:=hk.le
 refine ⟨stX us τ N.length,⟨?_,fun i y hy vy=>?_⟩,?_⟩
 ·unfold stX L2.start
  rw [Qb,Qb,Qb,Q4,Ju,Ju]
  omega
 ·by_cases c:i < n
  ·unfold stX L2.start
   rw [Qm (by rw [Qb,Q4]; omega),Qm (by rw [Q4]; omega),Qm (by rw [Q4]; omega)]
  ·by_cases c2:i < n + m
   ·have z:=hv i y (by omega) c2 hy
    have vy:Vis (defScope st) y:=vy
    rcases vy with v | v | v <;> rw [z] at v <;> cases v
   ·unfold stX L2.start
    rw [J1 (by rw [Qb,Q4]; omega),J1 (by rw [Q4]; omega),X3,X3,Qb,Q4]
    by_cases c3:i < N.length
    ·rw [if_pos (by omega),if_pos (by omega)]
    ·rw [if_neg (by omega),if_neg (by omega)]
 unfold fnX at hφ
 split at hφ
 case isFalse=>cases hφ
 rename_i ok
 have S1:=S0.entryX hk hu hτ ha ok
 cases e:g (as ++ Q3O sg.length N.length vl) with
 | none=>rw [e] at hφ; cases hφ
 | some o =>
  rw [e] at hφ
  refine q (Fx.body sg n vl mv G F (stX us τ N.length) B) F G _ _ B rfl (fun i hi=>?_) S1 o e _ ?_
  ·rw [Jg] at hi
   have hsl:=hk.len
   refine ⟨?_,?_⟩
   ·show ((decide (n ≤ i) && decide (i < sg.length)) || vl.contains i) = true
    rcases hi with hi | hi
    ·have:=hk.mv i hi
     rw [decide_eq_true this.1,decide_eq_true (by omega)]
     rfl
    ·rw [hi,Bool.or_true]
   ·show (Ka sg i && !(mv i || vl.contains i)) = false
    rcases hi with hi | hi
    ·rw [hi]; simp
    ·rw [hi]; simp
  cases o with
  | o o =>
   cases o with
   | rt d1 δ1 =>
    simp only at hφ
    obtain ⟨o1,e2,e3⟩:=Ql.mp hφ
    cases e3
    intro v σ' F' G' B' sF S2 rr
    obtain ⟨σ'',A'',st',mr,S3⟩:=S0.leaveX hk hu hτ ha ok S2 e2
    exact kk F' G' σ'' A'' st' mr S3 v (QgJ (t:=N.length) (m:=m) hfr rr)
   | nx δ1 =>
    simp only at hφ
    split at hφ
    ·obtain ⟨o1,e2,e3⟩:=Ql.mp hφ
     cases e3
     intro σ' F' G' B' sF S2
     obtain ⟨σ'',A'',st',mr,S3⟩:=S0.leaveX hk hu hτ ha ok S2 e2
     refine ⟨σ',GE.refl _,?_⟩
     exact kk F' G' σ'' A'' st' mr S3 .non .non
    ·cases hφ
   | ct δ1=>cases hφ
  | ex c δ1 =>
   simp only at hφ
   obtain ⟨o1,e2,e3⟩:=Ql.mp hφ
   cases e3
   intro σ0 σ' F' G' B' C sF _ S2 hC
   obtain ⟨σ'',A'',st',mr,S3⟩:=S0.leaveX hk hu hτ ha ok S2 e2
   exact kk F' G' σ'' A'' st' mr S3 C hC
end
end Z
namespace Z
open PySem PySem.Spec PyProof.Rows L2
section
variable {X:Cx} {CX:CXT} {k:Nat} {f C:Addr} {fd:FuncData} {ps:List Str} {sp:Sp} {E:XK} {x m:Str} {p pos apos:Pos} {e o:Expr} {es:List Expr} {ta:TE} {t:TA} {pl:Sem Bool}
theorem Qgj {pins:List (Addr × Obj)} {σ:L2.St} {H:Hp} {s:Shared} {Q:VK} {us:List Value} {vs:List V} (Fn:FnG X.prog X.w X.K X.mg X.base CX k f fd ps sp) (hG:X.A.guards = some []) (hR:Room k X.A) (hb:Binds X.K fd ps []) (hx:PassesAt CX X σ E)
  (I:L2.Inv X pins σ H s) (r:Vals vs us) (q:sp vs H Q E):wpAny (model X.prog X.w) X.A (call (.ref f) us) (EP X pins σ Q) X.xe s:=by
 have n:=Fn.len _ _ _ _ q
 have n2:(us ++ []).length = ps.length:=by rw [J4,← r.length]; exact n
 have b:=hb s us I.kIn n2
 rw [J4] at b
 refine wpAny_call (codeAny_mono (Fn.run X.A X.stack s H ⟨us,[]⟩ us vs Q E hG hR I.env0 b r q) ?_)
 intro res s2 hq
 cases res with
 | error er=>exact hx pins H s er s2 I hq
 | ok fl =>
  cases fl with
  | ret u=>exact I.after hq
  | next=>exact hq.elim
  | brk=>exact hq.elim
  | cont=>exact hq.elim
theorem FnG.peS {Es:L2.St → XK} (Fn:FnG X.prog X.w X.K X.mg X.base CX k f fd ps sp) (hG:X.A.guards = some []) (hR:Room k X.A) (gl:Gl X x) (m:X.mg x = some (.ref f)) (kp:PySem.W.keepIn X.K (.ref f) = true) (hb:Binds X.K fd ps []) (hx:∀ σ,PassesAt CX X σ (Es σ))
  (ha:PA X (e :: es) t) (db:(x == ("__debug__":Str)) = false) (h1:starEach (e :: es) X.env = (false,eval e X.env) :: starEach es X.env) (h2:(backTo pos (starEach es X.env)).any (·.1) = false) :
  PE X (.Call (.Name x p) (e :: es) [] pos) (fun σ H Q=>t σ H fun vs H1=>sp vs H1 Q (Es σ)):=by
 constructor
 intro pins s σ G Q I h
 refine wpAny_Call_Name_kw (ld_glob I gl m ?_ db)
 refine PySem.W.callWith_K (h₀:=X.base) I.ok.mod.kin kp (thn (ha.run pos pins s σ G _ I h) ?_) h1 h2
 rintro ws s1 ⟨us,G1,I1,r,q⟩
 exact ⟨I1.kIn,Qgj Fn hG hR hb (hx σ) I1 r q⟩
end
end Z
namespace Z
open PySem PySem.Spec PyProof.Rows L2
def Qfy (js:List Nat) (n:Nat) (fs:List (Str × Nat)):List (Str × Nat):=fs.map fun q=>(q.1,n + js.idxOf q.2)
def Q8d (js:List Nat) (n:Nat):Sl → Sl
 | .ob c fs=>.ob c (Qfy js n fs)
 | s=>s
def QhZ (js:List Nat) (n:Nat) (δ:List Sl):Ar → Sl
 | .d d=>.fz d
 | .io i=>Q8d js n (δ[i]?.getD .no)
def asX (js:List Nat) (as:List Ar) (δ:List Sl):List Sl:=as.map (QhZ js as.length δ) ++ js.map fun j=>Q8d js as.length (δ[j]?.getD .no)
def Qez (a b:Sl):Bool:=match a with
 | .ob c fs=>match b with
  | .ob c' fs'=>(c == c') && (fs == fs')
  | _=>false
 | _=>!Q31 b && !Qgl b
def Q2X (js:List Nat) (as:List Ar) (δ:List Sl):Bool :=
 decide ((ios as ++ js).Nodup) && (ios as).all (fun i=>match δ[i]? with | some s=>Z6 s | none=>false) && js.all (fun j=>match δ[j]? with | some s=>!Qgl s | none=>false)
 && (ios as ++ js).all (fun i=>match δ[i]? with | some (.ob _ fs)=>fs.all fun q=>js.contains q.2 | _=>true)
def Q6H (js:List Nat) (as:List Ar):Nat → List Sl → Bool
 | _,[]=>true
 | k,s :: r=>(match s with | .ob _ fs=>(ios as ++ js).contains k || fs.all (fun q=>!js.contains q.2) | _=>true) && Q6H js as (k + 1) r
def Q0Y (js:List Nat) (as:List Ar) (δ outs:List Sl):Bool:=decide (outs.length = as.length + js.length) && ((ios as ++ js).all fun _=>true) && (as.zip outs).all (fun p=>match p.1 with | .io _=>Qez (QhZ js as.length δ p.1) p.2 | _=>true) && (js.zip (outs.drop as.length)).all (fun p=>Qez (Q8d js as.length (δ[p.1]?.getD .no)) p.2)
def wsA:List Ar → List Sl → List (Nat × Sl)
 | .io i :: r,b :: s=>if Q31 b then wsA r s else (i,b) :: wsA r s
 | .d _ :: r,_ :: s=>wsA r s
 | _,_=>[]
def wsJ:List Nat → List Sl → List (Nat × Sl)
 | j :: r,b :: s=>if Q31 b then wsJ r s else (j,b) :: wsJ r s
 | _,_=>[]
def Q4R (ws:List (Nat × Sl)):Nat → List Sl → List Sl
 | _,[]=>[]
 | k,s :: r=>((ws.lookup k).getD s) :: Q4R ws (k + 1) r
def Q1s (js:List Nat) (as:List Ar) (outs δ:List Sl):List Sl:=Q4R (wsA as outs ++ wsJ js (outs.drop as.length)) 0 δ
theorem Q4N {ws:List (Nat × Sl)}:∀ {δ:List Sl} {k i:Nat},(Q4R ws k δ)[i]? = (δ[i]?).map fun s=>(ws.lookup (k + i)).getD s
 | [],k,i=>by simp [Q4R]
 | s :: r,k,0=>by simp [Q4R]
 | s :: r,k,i + 1=>by
  show (Q4R ws (k + 1) r)[i]? = _
  rw [Q4N,List.getElem?_cons_succ,show k + 1 + i = k + (i + 1) by omega]
theorem Q2c {ws:List (Nat × Sl)}:∀ {δ:List Sl} {k:Nat},(Q4R ws k δ).length = δ.length
 | [],_=>rfl
 | _ :: r,k=>congrArg (· + 1) (Q2c (δ:=r) (k:=k + 1))
theorem Q2p:∀ {as:List Ar} {outs:List Sl} {i:Nat},i ∉ ios as → (wsA as outs).lookup i = none
 | [],_,_,_=>by simp [wsA]
 | .io j :: r,[],_,_=>by simp [wsA]
 | .d _ :: r,[],_,_=>by simp [wsA]
 | .d _ :: r,b :: s,i,h=>Q2p (as:=r) h
 | .io j :: r,b :: s,i,h=>by
  rw [show ios (.io j :: r) = j :: ios r from rfl,Qg,not_or] at h
  unfold wsA
  split
  ·exact Q2p h.2
  ·rw [X1,beq_eq_false_iff_ne.mpr h.1]
   exact Q2p h.2
theorem Q9x:∀ {as:List Ar} {outs:List Sl} {i j:Nat} {b:Sl},(ios as).Nodup → as[j]? = some (.io i) → outs[j]? = some b → (wsA as outs).lookup i = if Q31 b then none else some b
 | [],_,_,_,_,_,e,_=>by simp at e
 | .io k :: r,[],_,_,_,_,_,e=>by simp at e
 | .d _ :: r,[],_,_,_,_,_,e=>by simp at e
 | .d _ :: r,c :: s,i,j,b,nd,e1,e2=>by
  cases j with
  | zero=>cases e1
  | succ j=>exact Q9x (as:=r) (j:=j) nd e1 e2
 | .io k :: r,c :: s,i,j,b,nd,e1,e2=>by
  rw [show ios (.io k :: r) = k :: ios r from rfl,X8] at nd
  cases j with
  | zero =>
   cases e1
   cases e2
   unfold wsA
   split
   ·exact Q2p nd.1
   ·rw [X1,beq_self_eq_true]
  | succ j =>
   have hi:i ≠ k:=fun z=>by
    subst z
    exact nd.1 (Kh.mpr ⟨j,e1⟩)
   unfold wsA
   split
   ·exact Q9x (as:=r) (j:=j) nd.2 e1 e2
   ·rw [X1,beq_eq_false_iff_ne.mpr hi]
    exact Q9x (as:=r) (j:=j) nd.2 e1 e2
theorem Q3P:∀ {js:List Nat} {outs:List Sl} {i:Nat},i ∉ js → (wsJ js outs).lookup i = none
 | [],_,_,_=>by simp [wsJ]
 | j :: r,[],_,_=>by simp [wsJ]
 | j :: r,b :: s,i,h=>by
  rw [Qg,not_or] at h
  unfold wsJ
  split
  ·exact Q3P h.2
  ·rw [X1,beq_eq_false_iff_ne.mpr h.1]
   exact Q3P h.2
theorem Qcl:∀ {js:List Nat} {outs:List Sl} {i j:Nat} {b:Sl},js.Nodup → js[j]? = some i → outs[j]? = some b → (wsJ js outs).lookup i = if Q31 b then none else some b
 | [],_,_,_,_,_,e,_=>by simp at e
 | k :: r,[],_,_,_,_,_,e=>by simp at e
 | k :: r,c :: s,i,j,b,nd,e1,e2=>by
  rw [X8] at nd
  cases j with
  | zero =>
   cases e1
   cases e2
   unfold wsJ
   split
   ·exact Q3P nd.1
   ·rw [X1,beq_self_eq_true]
  | succ j =>
   have hi:i ≠ k:=fun z=>by
    subst z
    exact nd.1 (Jq e1)
   unfold wsJ
   split
   ·exact Qcl (js:=r) (j:=j) nd.2 e1 e2
   ·rw [X1,beq_eq_false_iff_ne.mpr hi]
    exact Qcl (js:=r) (j:=j) nd.2 e1 e2
theorem Q4m {ws vs:List (Nat × Sl)} {i:Nat}:(ws ++ vs).lookup i = (ws.lookup i).or (vs.lookup i):=by
 induction ws with
 | nil=>rfl
 | cons p r ih =>
  rw [List.cons_append,X1,X1]
  cases i == p.1
  ·exact ih
  ·rfl
def Q4H (A:Nat → List Addr) (as:List Ar) (js:List Nat):Nat → List Addr:=fun j=>if j < as.length then Q0X A as j else match js[j - as.length]? with
 | some i=>A i
 | none=>[]
def Ki (as:List Ar) (js:List Nat) (j:Nat):Option Nat:=if j < as.length then match as[j]? with
  | some (.io i)=>some i
  | _=>none
 else js[j - as.length]?
theorem Zs {A:Nat → List Addr} {as:List Ar} {js:List Nat} {j:Nat}:Q4H A as js j = match Ki as js j with | some i=>A i | none=>[]:=by
 unfold Q4H Ki Q0X
 split
 ·cases as[j]? with
  | none=>rfl
  | some a=>cases a <;> rfl
 ·rfl
theorem Zq {as:List Ar} {js:List Nat} {i:Nat}:i ∈ ios as ++ js ↔ ∃ j,Ki as js j = some i:=by
 rw [Qc]
 constructor
 ·rintro (h | h)
  ·obtain ⟨j,e⟩:=Kh.mp h
   refine ⟨j,?_⟩
   unfold Ki
   rw [if_pos (Q8.mp e).1,e]
  ·obtain ⟨j,hj,e⟩:=List.getElem_of_mem h
   refine ⟨as.length + j,?_⟩
   unfold Ki
   rw [if_neg (by omega),show as.length + j - as.length = j by omega,Qa hj,e]
 ·rintro ⟨j,e⟩
  unfold Ki at e
  split at e
  ·split at e
   ·rename_i i' e2
    cases e
    exact .inl (Kh.mpr ⟨j,e2⟩)
   ·cases e
  ·exact .inr (Jq e)
theorem QaZ {as:List Ar} {js:List Nat} (nd:(ios as ++ js).Nodup) {j k i:Nat} (h1:Ki as js j = some i) (h2:Ki as js k = some i):j = k:=by
 rw [X4] at nd
 obtain ⟨n1,n2,n3⟩:=nd
 unfold Ki at h1 h2
 split at h1
 ·rename_i c1
  split at h1
  case h_2=>cases h1
  rename_i i1 e1
  cases h1
  split at h2
  ·split at h2
   case h_2=>cases h2
   rename_i i2 e2
   cases h2
   exact Qdo n1 e1 e2
  ·exact absurd rfl (n3 i (Kh.mpr ⟨j,e1⟩) i (Jq h2))
 ·rename_i c1
  split at h2
  ·split at h2
   case h_2=>cases h2
   rename_i i2 e2
   cases h2
   exact absurd rfl (n3 i (Kh.mpr ⟨k,e2⟩) i (Jq h1))
  ·rename_i c2
   have l1:=(Q8.mp h1).1
   have l2:=(Q8.mp h2).1
   have e1:=(Q8.mp h1).2
   have e2:=(Q8.mp h2).2
   have pw:=List.pairwise_iff_getElem.mp n2
   rcases Nat.lt_trichotomy (j - as.length) (k - as.length) with q | q | q
   ·exact absurd (e1.trans e2.symm) (pw _ _ l1 l2 q)
   ·omega
   ·exact absurd (e2.trans e1.symm) (pw _ _ l2 l1 q)
theorem Q4P {js:List Nat} {as:List Ar} {δ:List Sl} (h:Q2X js as δ = true):(ios as ++ js).Nodup ∧ (∀ i ∈ ios as,∃ s,δ[i]? = some s ∧ Z6 s = true) ∧ (∀ j ∈ js,∃ s,δ[j]? = some s ∧ s ≠ .no) ∧ ∀ i ∈ ios as ++ js,∀ c fs,δ[i]? = some (.ob c fs) → ∀ q ∈ fs,q.2 ∈ js:=by
 unfold Q2X at h
 simp only [Q5,decide_eq_true_eq] at h
 obtain ⟨⟨⟨h1,h2⟩,h3⟩,h4⟩:=h
 refine ⟨h1,fun i hi=>?_,fun j hj=>?_,fun i hi c fs e q hq=>?_⟩
 ·have:=Qe.mp h2 i hi
  split at this
  ·rename_i s e; exact ⟨s,e,this⟩
  ·cases this
 ·have:=Qe.mp h3 j hj
  split at this
  ·rename_i s e
   refine ⟨s,e,fun z=>?_⟩
   subst z
   cases this
  ·cases this
 ·have:=Qe.mp h4 i hi
  rw [e] at this
  simpa using Qe.mp this q hq
theorem Q8L {js:List Nat} {as:List Ar}:∀ {δ:List Sl} {k i:Nat} {c:Str} {fs:List (Str × Nat)},Q6H js as k δ = true → δ[i]? = some (.ob c fs) → k + i ∉ ios as ++ js → ∀ q ∈ fs,q.2 ∉ js
 | [],_,_,_,_,_,e,_,_,_=>by simp at e
 | s :: r,k,0,c,fs,h,e,n,q,hq=>by
  cases e
  unfold Q6H at h
  rw [Q5,Jg] at h
  rcases h.1 with z | z
  ·exact absurd (Jn.mp z) (by simpa using n)
  ·simpa using Qe.mp z q hq
 | s :: r,k,i + 1,c,fs,h,e,n,q,hq=>by
  unfold Q6H at h
  rw [Q5] at h
  exact Q8L (δ:=r) (k:=k + 1) (i:=i) h.2 e (by rw [show k + 1 + i = k + (i + 1) by omega]; exact n) q hq
theorem Qbq {js:List Nat} {as:List Ar} {δ outs:List Sl} (h:Q0Y js as δ outs = true):outs.length = as.length + js.length ∧ ∀ j i b,Ki as js j = some i → outs[j]? = some b → Qez (Q8d js as.length (δ[i]?.getD .no)) b = true:=by
 unfold Q0Y at h
 simp only [Q5,decide_eq_true_eq] at h
 obtain ⟨⟨⟨h1,_⟩,h3⟩,h4⟩:=h
 refine ⟨h1,fun j i b e1 e2=>?_⟩
 unfold Ki at e1
 split at e1
 ·split at e1
  case h_2=>cases e1
  rename_i i' e3
  cases e1
  have:(Ar.io i,b) ∈ as.zip outs:=Jq (i:=j) (by rw [X7]; exact ⟨e3,e2⟩)
  exact Qe.mp h3 _ this
 ·rename_i c
  have:(i,b) ∈ js.zip (outs.drop as.length):=Jq (i:=j - as.length) (by
   rw [X7,List.getElem?_drop,show as.length + (j - as.length) = j by omega]
   exact ⟨e1,e2⟩)
  exact Qe.mp h4 _ this
theorem Q66 {js:List Nat} {as:List Ar} {outs δ:List Sl} {i:Nat} (h:i ∉ ios as ++ js):(Q1s js as outs δ)[i]? = δ[i]?:=by
 rw [Qc,not_or] at h
 unfold Q1s
 rw [Q4N,Nat.zero_add,Q4m,Q2p h.1,Q3P h.2]
 cases δ[i]? <;> rfl
theorem Q7p {js:List Nat} {as:List Ar} {outs δ:List Sl} {i j:Nat} {b:Sl} (nd:(ios as ++ js).Nodup) (h:Ki as js j = some i) (e:outs[j]? = some b):(Q1s js as outs δ)[i]? = (δ[i]?).map fun s=>if Q31 b then s else b:=by
 rw [X4] at nd
 obtain ⟨n1,n2,n3⟩:=nd
 unfold Q1s
 rw [Q4N,Nat.zero_add,Q4m]
 have key:((wsA as outs).lookup i).or ((wsJ js (outs.drop as.length)).lookup i) = if Q31 b then none else some b:=by
  unfold Ki at h
  split at h
  ·split at h
   case h_2=>cases h
   rename_i i' e2
   cases h
   rw [Q9x n1 e2 e,Q3P fun z=>n3 i (Kh.mpr ⟨j,e2⟩) i z rfl]
   split <;> rfl
  ·rename_i c
   rw [Q2p fun z=>n3 i z i (Jq h) rfl,Qcl n2 h (by rw [List.getElem?_drop,show as.length + (j - as.length) = j by omega]; exact e)]
   rfl
 rw [key]
 cases δ[i]? with
 | none=>rfl
 | some s=>cases Q31 b <;> rfl
theorem Q6e {a b:Sl} (h:Qez a b = true):(∃ c fs,a = .ob c fs ∧ b = .ob c fs) ∨ (Q31 a = false ∧ Q31 b = false ∧ b ≠ .no):=by
 unfold Qez at h
 split at h
 ·split at h
  ·rw [Q5,beq_iff_eq,beq_iff_eq] at h
   obtain ⟨rfl,rfl⟩:=h
   exact .inl ⟨_,_,rfl,rfl⟩
  ·cases h
 ·rename_i hn
  rw [Q5] at h
  refine .inr ⟨?_,by simpa using h.1,fun z=>?_⟩
  ·cases a with
   | ob c fs=>exact absurd rfl (hn c fs)
   | _=>rfl
  ·subst z
   cases h.2
theorem Qhl {js:List Nat} {n:Nat} {s:Sl} {c:Str} {fs:List (Str × Nat)} (h:Q8d js n s = .ob c fs):∃ gs,s = .ob c gs ∧ fs = Qfy js n gs:=by
 cases s with
 | ob c' gs=>cases h; exact ⟨gs,rfl,rfl⟩
 | _=>cases h
theorem Qhw {js:List Nat} {n:Nat} {s:Sl} (h:Q8d js n s = .no):s = .no:=by
 cases s <;> first | rfl | cases h
theorem Q8H {K:PySem.W.Frag} {F H:Hp} {js:List Nat} {n:Nat} {s:Sl} {v:Option V} {A:List Addr}:Q0Z K F H (Q8d js n s) v A ↔ Q0Z K F H s v A:=by
 cases s <;> exact Iff.rfl
section
variable {K:PySem.W.Frag} {Y:Fx} {F H:Hp} {δ:List Sl} {σ:L2.St} {A:Nat → List Addr} {js:List Nat}
def Q67 (js:List Nat) (σ:L2.St):L2.St:=js.map fun j=>jn σ[j]?
theorem Q9G {as:List Ar} {j i:Nat} (h:Ki as js j = some i):(asX js as δ)[j]? = some (Q8d js as.length (δ[i]?.getD .no)):=by
 unfold Ki at h
 unfold asX
 split at h
 ·split at h
  case h_2=>cases h
  rename_i i' e
  cases h
  rw [Qm (by rw [Q4]; assumption),Qp,e]
  rfl
 ·rw [J1 (by rw [Q4]; omega),Q4,Qp,h]
  rfl
theorem Q2O {vs:List V} {as:List Ar} {j i:Nat} (r:ArR K F H A [] σ vs as) (h:Ki as js j = some i):jn (vs.map some ++ Q67 js σ)[j]? = jn σ[i]?:=by
 unfold Ki at h
 have hl:=r.length
 split at h
 ·split at h
  case h_2=>cases h
  rename_i i' e
  cases h
  obtain ⟨v,v1,v2⟩:=r.get e
  rw [Qm (by rw [Q4]; omega),Qp,v1]
  rw [show σ[i]? = some (some v) from v2]
  rfl
 ·rename_i c
  unfold Q67
  rw [J1 (by rw [Q4]; omega),Q4,Qp,hl,h]
  rfl
theorem Qac {σ1 σ2:L2.St} {n:Nat} {fs:List (Str × Nat)} (h:∀ q ∈ fs,jn σ1[n + js.idxOf q.2]? = jn σ2[q.2]?):Q4U σ1 (Qfy js n fs) = Q4U σ2 fs:=by
 unfold Q4U Qfy
 induction fs with
 | nil=>rfl
 | cons q r ih =>
  rw [Qq,Jh,Jh,ih fun x hx=>h x (Q6 _ hx)]
  simp only [h q Q7]
theorem QhM {σ1 σ2:L2.St} {fs:List (Str × Nat)} (h:∀ q ∈ fs,jn σ1[q.2]? = jn σ2[q.2]?):Q4U σ1 fs = Q4U σ2 fs:=by
 unfold Q4U
 induction fs with
 | nil=>rfl
 | cons q r ih =>
  rw [Jh,Jh,ih fun x hx=>h x (Q6 _ hx)]
  simp only [h q Q7]
theorem Q15 {as:List Ar} {i:Nat} (h:i ∈ js):Ki as js (as.length + js.idxOf i) = some i:=by
 unfold Ki
 rw [if_neg (by omega),show as.length + js.idxOf i - as.length = js.idxOf i by omega]
 have hl:js.idxOf i < js.length:=List.idxOf_lt_length_iff.mpr h
 rw [Qa hl,List.getElem_idxOf hl]
theorem SR.argsX {vs:List V} {as:List Ar} (S:SR K Y F H δ σ A) (ok:Q2X js as δ = true) (r:ArR K F H A [] σ vs as):SR K (Fx.args as.length) F H (asX js as δ) (vs.map some ++ Q67 js σ) (Q4H A as js):=by
 obtain ⟨nd,o1,o2,o3⟩:=Q4P ok
 have hl:=r.length
 have mem:∀ j a,a ∈ Q4H A as js j → ∃ i,Ki as js j = some i ∧ a ∈ A i:=fun j a h=>by
  rw [Zs] at h
  split at h
  ·rename_i i e; exact ⟨i,e,h⟩
  ·simp at h
 have lA:(asX js as δ).length = as.length + js.length:=by unfold asX; rw [Qb,Q4,Q4]
 refine ⟨by rw [lA,Qb,Q4]; unfold Q67; rw [Q4,hl],fun j s e=>?_,fun j e=>?_,fun j k a h1 h2=>?_,fun j a h=>?_,fun _ _ _ _=>rfl,S.sub,fun _ z=>(by cases z),fun _ _=>trivial,fun _ _ z=>(by cases z),fun _ _ _=>rfl,fun _ _ z=>(by cases z),fun i z=>z.elim (fun z=>(by cases z)) id,fun j c fs e=>?_,fun j hj e=>?_⟩
 ·cases el:Ki as js j with
  | some i =>
   rw [Q9G el] at e
   cases e
   rw [Zs,el,Q2O r el,Q8H]
   cases es:δ[i]? with
   | none =>
    show A i = []
    exact S.out i es
   | some s=>exact S.slot i s es
  | none =>
   have hj:j < as.length:=by
    apply Nat.lt_of_not_le
    intro c
    unfold Ki at el
    rw [if_neg (by omega)] at el
    have l1:=(Q8.mp e).1
    have:=Jd.mp el
    omega
   rw [Zs,el]
   have e':=e
   unfold asX at e'
   rw [Qm (by rw [Q4]; exact hj),Qp] at e'
   cases ea:as[j]? with
   | none=>rw [ea] at e'; cases e'
   | some a =>
    cases a with
    | io i=>unfold Ki at el; rw [if_pos hj,ea] at el; cases el
    | d d =>
     rw [ea] at e'
     cases e'
     obtain ⟨v,v1,v2⟩:=r.get ea
     refine ⟨rfl,v,?_,Vw.nil v2⟩
     rw [Qm (by rw [Q4]; omega),Qp,v1]
     rfl
 ·have c:as.length + js.length ≤ j:=by
   have:=Jd.mp e
   omega
  unfold Q4H
  rw [if_neg (by omega),Qz (by omega)]
 ·obtain ⟨i,e1,m1⟩:=mem j a h1
  obtain ⟨i',e2,m2⟩:=mem k a h2
  have:=S.dis i i' a m1 m2
  subst this
  exact QaZ nd e1 e2
 ·obtain ⟨i,e1,m1⟩:=mem j a h
  exact S.hid i a m1
 ·obtain ⟨i,e1⟩:∃ i,Ki as js j = some i:=by
   cases el:Ki as js j with
   | some i=>exact ⟨i,rfl⟩
   | none =>
    exfalso
    have hj:j < as.length:=by
     apply Nat.lt_of_not_le
     intro cc
     unfold Ki at el
     rw [if_neg (by omega)] at el
     have l1:=(Q8.mp e).1
     have:=Jd.mp el
     omega
    unfold asX at e
    rw [Qm (by rw [Q4]; exact hj),Qp] at e
    cases ea:as[j]? with
    | none=>rw [ea] at e; cases e
    | some a =>
     cases a with
     | io i=>unfold Ki at el; rw [if_pos hj,ea] at el; cases el
     | d d=>rw [ea] at e; cases e
  rw [Q9G e1] at e
  obtain ⟨gs,g1,rfl⟩:=Qhl (Ja.inj e)
  have g2:δ[i]? = some (.ob c gs):=by
   cases es:δ[i]? with
   | none=>rw [es] at g1; cases g1
   | some s=>rw [es] at g1; exact congrArg some g1
  obtain ⟨h1,h2⟩:=S.ob i c gs g2
  have hm:∀ q ∈ gs,q.2 ∈ js:=o3 i (Zq.mpr ⟨j,e1⟩) c gs g2
  refine ⟨fun q hq=>?_,fun p C dx fvs q1 q2=>?_⟩
  ·unfold Qfy at hq
   obtain ⟨q0,hq0,rfl⟩:=Qy.mp hq
   exact decide_eq_true (Jk _ _)
  ·rw [Q2O r e1] at q1
   rw [h2 p C dx fvs q1 q2]
   exact (Qac fun q hq=>Q2O r (Q15 (hm q hq))).symm
 ·have hj:as.length ≤ j:=of_decide_eq_true hj
  have l1:=(Q8.mp e).1
  have hlt:j - as.length < js.length:=by omega
  have e1:Ki as js j = some js[j - as.length]:=by
   unfold Ki
   rw [if_neg (by omega),Qa hlt]
  rw [Q9G e1] at e
  obtain ⟨s,h1,h2⟩:=o2 js[j - as.length] (Xg hlt)
  rw [h1] at e
  exact h2 (Qhw (Ja.inj e))
def sgB (js:List Nat) (n:Nat) (σ2 σ:L2.St):L2.St:=(Jj σ.length).map fun i=>if js.contains i then jn σ2[n + js.idxOf i]? else jn σ[i]?
def AB (js:List Nat) (n:Nat) (A2 A:Nat → List Addr):Nat → List Addr:=fun i=>if js.contains i then A2 (n + js.idxOf i) else A i
theorem Q7C {n:Nat} {σ2 σ:L2.St} {i:Nat} (h:i ∈ js) (hl:i < σ.length):jn (sgB js n σ2 σ)[i]? = jn σ2[n + js.idxOf i]?:=by
 unfold sgB
 rw [Qp,List.getElem?_range hl]
 simp only [Qi]
 rw [if_pos (Jn.mpr h)]
 rfl
theorem Q45 {n:Nat} {σ2 σ:L2.St} {i:Nat} (h:i ∉ js):(sgB js n σ2 σ)[i]? = σ[i]?:=by
 unfold sgB
 rw [Qp]
 by_cases hl:i < σ.length
 ·rw [List.getElem?_range hl]
  simp only [Qi]
  rw [if_neg (by simpa using h),Qa hl]
  rfl
 ·rw [Qz (by rw [List.length_range]; omega),Qz (by omega)]
  rfl
theorem QcJ {n:Nat} {A2 A:Nat → List Addr} {i:Nat} (h:i ∈ js):AB js n A2 A i = A2 (n + js.idxOf i):=if_pos (Jn.mpr h)
theorem Q65 {n:Nat} {A2 A:Nat → List Addr} {i:Nat} (h:i ∉ js):AB js n A2 A i = A i:=if_neg (by simpa using h)
theorem SR.behindX {mv:Nat → Bool} {vs:List V} {as:List Ar} {F2 H2:Hp} {outs:List Sl} {σ2:L2.St} {A2:Nat → List Addr} (S:SR K Y F H δ σ A) (ok:Q2X js as δ = true) (r:ArR K F H A [] σ vs as)
  (st:QgI (Q4H A as js) mv (as.length + js.length) F H F2 H2) (mr:MvR (Q4H A as js) A2 mv H (vs.map some ++ Q67 js σ) σ2)
  (S2:SR K (Fx.args as.length) F2 H2 outs σ2 A2) (oo:Q0Y js as δ outs = true)
  (hmv:∀ i,mv i = true → as.length ≤ i ∧ i < as.length + js.length) (hY:∀ i,mv i = true → ∀ j,js[i - as.length]? = some j → Y.lt j = false) (hsep:(∀ i,mv i = false) ∨ Q6H js as 0 δ = true) :
  SR K Y F2 H2 (Q1s js as outs δ) (sgB js as.length σ2 σ) (AB js as.length A2 A):=by
 obtain ⟨nd,o1,o2,o3⟩:=Q4P ok
 obtain ⟨lo,oe⟩:=Qbq oo
 have hl:=r.length
 have lσ:(sgB js as.length σ2 σ).length = σ.length:=by unfold sgB; rw [Q4,List.length_range]
 have ndj:js.Nodup:=(X4.mp nd).2.1
 have dij:∀ i,i ∈ ios as → i ∉ js:=fun i h1 h2=>(X4.mp nd).2.2 i h1 i h2 rfl
 have jlt:∀ j ∈ js,j < δ.length:=fun j hj=>by
  obtain ⟨s,e,_⟩:=o2 j hj
  exact (Q8.mp e).1
 have ilt:∀ i ∈ ios as ++ js,i < δ.length:=fun i hi=>by
  rcases Qc.mp hi with h | h
  ·obtain ⟨s,e,_⟩:=o1 i h
   exact (Q8.mp e).1
  ·exact jlt i h
 have mem:∀ j a,a ∈ Q4H A as js j → ∃ i,Ki as js j = some i ∧ a ∈ A i:=fun j a h=>by
  rw [Zs] at h
  split at h
  ·rename_i i e; exact ⟨i,e,h⟩
  ·simp at h
 have mvs:∀ j,mv j = true → ∃ i,Ki as js j = some i ∧ i ∈ js ∧ Y.lt i = false:=fun j hj=>by
  obtain ⟨h1,h2⟩:=hmv j hj
  have hlt:j - as.length < js.length:=by omega
  refine ⟨js[j - as.length],?_,Xg hlt,hY j hj _ (Qa hlt)⟩
  unfold Ki
  rw [if_neg (by omega),Qa hlt]
 -- what other slots own is kept
 have other:∀ i a,a ∈ A i → i ∉ ios as ++ js → ∀ j,a ∉ Q4H A as js j:=fun i a m hi j h=>by
  obtain ⟨i',e,m'⟩:=mem j a h
  have:=S.dis i i' a m m'
  subst this
  exact hi (Zq.mpr ⟨j,e⟩)
 have keep:∀ a o,H a = some o → (∀ j,a ∉ Q4H A as js j) → H2 a = some o:=fun a o e n=>st.kp a o e fun j _=>n j
 have keepO:∀ i a,a ∈ A i → i ∉ ios as ++ js → H2 a = H a:=fun i a m hi=>by
  obtain ⟨u,q⟩:=(S.there m).some
  rw [q,keep a _ q (other i a m hi)]
 -- where the new things are
 have inA:∀ i a,a ∈ AB js as.length A2 A i → (∃ j,Ki as js j = some i ∧ a ∈ A2 j) ∨ (i ∉ ios as ++ js ∧ a ∈ A i):=fun i a h=>by
  by_cases c:i ∈ js
  ·rw [QcJ c] at h
   exact .inl ⟨_,Q15 c,h⟩
  ·rw [Q65 c] at h
   by_cases c2:i ∈ ios as
   ·obtain ⟨j,e⟩:=Zq.mp (Q9 js c2)
    refine .inl ⟨j,e,?_⟩
    have hj:mv j = false:=by
     cases q:mv j with
     | false=>rfl
     | true =>
      obtain ⟨i',e',hi',_⟩:=mvs j q
      rw [e] at e'
      cases e'
      exact absurd hi' c
    rw [(mr.eq j hj).2,Zs,e]
    exact h
   ·exact .inr ⟨by rw [Qc,not_or]; exact ⟨c2,c⟩,h⟩
 -- a thing of a callee's slot was the slot's,or is of a moving one,or is new
 have from2:∀ j i a,Ki as js j = some i → a ∈ A2 j → a ∈ A i ∨ (mv j = true ∧ ((∃ j' i',mv j' = true ∧ Ki as js j' = some i' ∧ a ∈ A i') ∨ H a = none)):=fun j i a e h=>by
  cases q:mv j with
  | false =>
   rw [(mr.eq j q).2,Zs,e] at h
   exact .inl h
  | true =>
   refine .inr ⟨rfl,?_⟩
   rcases mr.mv j a q h with ⟨j',h1,h2⟩ | h
   ·obtain ⟨i',e',m'⟩:=mem j' a h2
    exact .inl ⟨j',i',h1,e',m'⟩
   ·exact .inr h
 have apart:∀ j i a k,Ki as js j = some i → a ∈ A2 j → a ∈ A k → k ∈ ios as ++ js:=fun j i a k e h m=>by
  rcases from2 j i a e h with q | ⟨_,⟨j',i',_,e',m'⟩ | q⟩
  ·have:=S.dis k i a m q
   subst this
   exact Zq.mpr ⟨j,e⟩
  ·have:=S.dis k i' a m m'
   subst this
   exact Zq.mpr ⟨j',e'⟩
  ·exact absurd q (S.isSome m)
 have outAt:∀ j i,Ki as js j = some i → ∃ b,outs[j]? = some b:=fun j i e=>by
  have hj:j < as.length + js.length:=by
   unfold Ki at e
   split at e
   ·omega
   ·have:=(Q8.mp e).1
    omega
  exact ⟨_,Qa (by omega)⟩
 have slotAt:∀ j i,Ki as js j = some i → jn (sgB js as.length σ2 σ)[i]? = jn σ2[j]? ∧ AB js as.length A2 A i = A2 j:=fun j i e=>by
  have hi:=Zq.mpr ⟨j,e⟩
  by_cases c:i ∈ js
  ·have:=QaZ nd e (Q15 c)
   rw [Q7C c (by rw [← S.len]; exact jlt i c),QcJ c,this]
   exact ⟨rfl,rfl⟩
  ·have c2:i ∈ ios as:=(Qc.mp hi).resolve_right c
   have hj:mv j = false:=by
    cases q:mv j with
    | false=>rfl
    | true =>
     obtain ⟨i',e',hi',_⟩:=mvs j q
     rw [e] at e'
     cases e'
     exact absurd hi' c
   obtain ⟨f1,f2⟩:=mr.eq j hj
   rw [Q45 c,Q65 c,f2,f1,Q2O r e,Zs,e]
   exact ⟨rfl,rfl⟩
 refine ⟨by rw [lσ]; unfold Q1s; rw [Q2c]; exact S.len,fun i s e=>?_,fun i e=>?_,fun i k a h1 h2=>?_,fun i a h=>?_,fun i a h hi=>?_,S2.sub,fun i hi=>?_,fun _ _=>trivial,fun a o e n=>?_,fun a e n=>?_,S.f0.trans st.f,S.lio,fun i c fs e=>?_,fun i hi e=>?_⟩
 ·by_cases c:i ∈ ios as ++ js
  ·obtain ⟨j,ej⟩:=Zq.mp c
   obtain ⟨b,eb⟩:=outAt j i ej
   rw [Q7p nd ej eb] at e
   obtain ⟨s1,s2⟩:=slotAt j i ej
   rw [s1,s2]
   have q:=S2.slot j b eb
   cases es:δ[i]? with
   | none=>rw [es] at e; cases e
   | some s0 =>
    rw [es] at e
    have e:(if Q31 b = true then s0 else b) = s:=Ja.inj e
    have eo:=oe j i b ej eb
    rw [es] at eo
    rcases Q6e eo with ⟨c0,fs0,e1,e2⟩ | ⟨e1,e2,e3⟩
    ·subst e2
     rw [show Q31 (Sl.ob c0 fs0) = true from rfl,if_pos rfl] at e
     subst e
     have e1:Q8d js as.length s0 = .ob c0 fs0:=e1
     rw [← e1] at q
     exact Q8H.mp q
    ·rw [e2,if_neg (by simp)] at e
     subst e
     exact q
  ·rw [Q66 c] at e
   have cj:i ∉ js:=fun z=>c (Qd _ z)
   rw [Q45 cj,Q65 cj]
   exact (S.slot i s e).mono st.f fun a ha=>keepO i a ha c
 ·have h0:δ[i]? = none:=by
   have:=Jd.mp e
   unfold Q1s at this
   rw [Q2c] at this
   exact Qz this
  have cj:i ∉ js:=fun z=>by
   have:=jlt i z
   have:=Jd.mp h0
   omega
  rw [Q65 cj]
  exact S.out i h0
 ·rcases inA i a h1 with ⟨j,e1,m1⟩ | ⟨n1,m1⟩
  ·rcases inA k a h2 with ⟨j',e2,m2⟩ | ⟨n2,m2⟩
   ·have:=S2.dis j j' a m1 m2
    subst this
    exact Ja.inj (e1.symm.trans e2)
   ·exact absurd (apart j i a k e1 m1 m2) n2
  ·rcases inA k a h2 with ⟨j',e2,m2⟩ | ⟨n2,m2⟩
   ·exact absurd (apart j' k a i e2 m2 m1) n1
   ·exact S.dis i k a m1 m2
 ·rcases inA i a h with ⟨j,e1,m1⟩ | ⟨n1,m1⟩
  ·exact S2.hid j a m1
  ·cases q:F2 a with
   | none=>rfl
   | some o =>
    rcases st.nw a (S.hid i a m1) (by rw [q]; simp) with z | ⟨j,hj,z⟩
    ·exact absurd z (S.isSome m1)
    ·exact absurd z (other i a m1 n1 j)
 ·rcases inA i a h with ⟨j,e1,m1⟩ | ⟨n1,m1⟩
  ·rcases from2 j i a e1 m1 with q | ⟨_,⟨j',i',h1,e',m'⟩ | q⟩
   ·exact S.new i a q hi
   ·obtain ⟨i2,e2,_,l2⟩:=mvs j' h1
    rw [e'] at e2
    cases e2
    exact S.new i' a m' l2
   ·exact S.fresh0 q
  ·exact S.new i a m1 hi
 ·obtain ⟨f1,f2⟩:=S.fix i hi
  by_cases c:i ∈ js
  ·have nm:mv (as.length + js.idxOf i) = false:=by
    cases q:mv (as.length + js.idxOf i) with
    | false=>rfl
    | true =>
     obtain ⟨i2,e2,_,l2⟩:=mvs _ q
     rw [Q15 c] at e2
     cases e2
     rw [hi] at l2
     cases l2
   obtain ⟨g1,g2⟩:=mr.eq _ nm
   refine ⟨?_,?_⟩
   ·have hl':i < σ.length:=by rw [← S.len]; exact jlt i c
    have z:=Q7C (n:=as.length) (σ2:=σ2) c hl'
    rw [g1,Q2O r (Q15 c)] at z
    have hl2:i < (sgB js as.length σ2 σ).length:=by rw [lσ]; exact hl'
    rw [← f1]
    rw [Qa hl',Qa hl2] at z ⊢
    exact congrArg some z
   ·rw [QcJ c,g2,Zs,Q15 c]
    exact f2
  ·rw [Q45 c,Q65 c]
   exact ⟨f1,f2⟩
 ·refine keep a o (S.kp a o e n) fun j h=>?_
  obtain ⟨i,e1,m1⟩:=mem j a h
  cases c:Y.lt i with
  | true =>
   rw [(S.fix i c).2] at m1
   exact n i c m1
  | false =>
   rw [S.new i a m1 c] at e
   cases e
 ·cases q:F a with
  | some o=>exact S.nw a e (by rw [q]; simp)
  | none =>
   rcases st.nw a q n with z | ⟨j,hj,z⟩
   ·exact S.fresh0 z
   ·obtain ⟨i,e1,m1⟩:=mem j a z
    obtain ⟨i2,e2,_,l2⟩:=mvs j hj
    rw [e1] at e2
    cases e2
    exact S.new i a m1 l2
 ·by_cases cc:i ∈ ios as ++ js
  ·obtain ⟨j,ej⟩:=Zq.mp cc
   obtain ⟨b,eb⟩:=outAt j i ej
   rw [Q7p nd ej eb] at e
   obtain ⟨s1,s2⟩:=slotAt j i ej
   rw [s1]
   cases es:δ[i]? with
   | none=>rw [es] at e; cases e
   | some s0 =>
    rw [es] at e
    have e:(if Q31 b = true then s0 else b) = Sl.ob c fs:=Ja.inj e
    have eo:=oe j i b ej eb
    rw [es] at eo
    rcases Q6e eo with ⟨c0,fs0,e1,e2⟩ | ⟨e1,e2,e3⟩
    ·subst e2
     rw [show Q31 (Sl.ob c0 fs0) = true from rfl,if_pos rfl] at e
     subst e
     have e1:Q8d js as.length (Sl.ob c fs) = .ob c0 fs0:=e1
     cases e1
     obtain ⟨k1,k2⟩:=S2.ob j c _ eb
     obtain ⟨h1,_⟩:=S.ob i c fs es
     refine ⟨h1,fun p C dx fvs q1 q2=>?_⟩
     rw [k2 p C dx fvs q1 q2]
     refine Qac fun q hq=>?_
     have hm:=o3 i cc c fs es q hq
     rw [Q7C hm (by rw [← S.len]; exact jlt q.2 hm)]
    ·rw [e2,if_neg (by simp)] at e
     subst e
     cases e2
  ·rw [Q66 cc] at e
   have cj:i ∉ js:=fun z=>cc (Qd _ z)
   rw [Q45 cj]
   obtain ⟨h1,h2⟩:=S.ob i c fs e
   refine ⟨h1,fun p C dx fvs q1 q2=>?_⟩
   have hp:=S.obp e q1
   rw [keepO i p hp cc] at q2
   rw [h2 p C dx fvs q1 q2]
   refine QhM fun q hq=>?_
   by_cases c2:q.2 ∈ js
   ·rcases hsep with hs | hs
    ·have nm:=mr.eq (as.length + js.idxOf q.2) (hs _)
     rw [Q7C c2 (by rw [← S.len]; exact jlt q.2 c2),nm.1,Q2O r (Q15 c2)]
    ·exact absurd c2 (Q8L hs e (by rw [Nat.zero_add]; exact cc) q hq)
   ·rw [Q45 c2]
 ·by_cases c:i ∈ ios as ++ js
  ·obtain ⟨j,ej⟩:=Zq.mp c
   obtain ⟨b,eb⟩:=outAt j i ej
   rw [Q7p nd ej eb] at e
   cases es:δ[i]? with
   | none=>rw [es] at e; cases e
   | some s0 =>
    rw [es] at e
    have e:(if Q31 b = true then s0 else b) = Sl.no:=Ja.inj e
    have eo:=oe j i b ej eb
    rw [es] at eo
    rcases Q6e eo with ⟨c0,fs0,e1,e2⟩ | ⟨e1,e2,e3⟩
    ·subst e2
     rw [show Q31 (Sl.ob c0 fs0) = true from rfl,if_pos rfl] at e
     subst e
     cases e1
    ·rw [e2,if_neg (by simp)] at e
     exact e3 e
  ·rw [Q66 c] at e
   exact S.vno i hi e
end
end Z
namespace Z
open PySem PySem.Spec PyProof.Rows L2
def EVX (X:Cx) (W:WX) (e:Expr) (f:List Sl → Option (Rs × List Sl)) (M:List Nat):Prop :=
 ∃ t,PE X e t ∧ ∀ (Y:Fx) (F H:Hp) (δ:List Sl) (σ:L2.St) (A:Nat → List Addr),SR X.K Y F H δ σ A → ∀ (r:Rs) (δ':List Sl),f δ = some (r,δ') → ∀ Q:VK,
  (match r with
   | .ok d=>∀ v F' H',Stp A M F H F' H' → SR X.K Y F' H' δ' σ A → Rp X.K F' v d → Q v H'
   | .ex c=>∀ F' H' C,Stp A M F H F' H' → SR X.K Y F' H' δ' σ A → Q0r X.K c C → W (.ref C) none σ H') → t σ H Q
inductive Ra where
 | as (l:List Ar)
 | ex (c:Str)
def CVX (X:Cx) (W:WX) (es:List Expr) (f:List Sl → Option (Ra × List Sl)) (M:List Nat) (n:Nat) (B:List Nat):Prop :=
 (∃ t,PA X es t ∧ ∀ (Y:Fx) (F H:Hp) (δ:List Sl) (σ:L2.St) (A:Nat → List Addr),SR X.K Y F H δ σ A → ∀ (r:Ra) (δ':List Sl),f δ = some (r,δ') → ∀ Q:List V → Hp → Prop,
  (match r with
   | .as as=>∀ vs F' H',Stp A M F H F' H' → SR X.K Y F' H' δ' σ A → ArR X.K F' H' A [] σ vs as → Q vs H'
   | .ex c=>∀ F' H' C,Stp A M F H F' H' → SR X.K Y F' H' δ' σ A → Q0r X.K c C → W (.ref C) none σ H') → t σ H Q) ∧
 ∀ δ as δ',f δ = some (.as as,δ') → as.length = n ∧ ∀ i ∈ ios as,i ∈ B
def xOk (f:List Sl → Option (D × List Sl)):List Sl → Option (Rs × List Sl):=fun δ=>(f δ).map fun p=>(.ok p.1,p.2)
def xAs (f:List Sl → Option (List Ar × List Sl)):List Sl → Option (Ra × List Sl):=fun δ=>(f δ).map fun p=>(.as p.1,p.2)
def Q1q (fa:List Sl → Option (Rs × List Sl)) (fr:List Sl → Option (Ra × List Sl)):List Sl → Option (Ra × List Sl):=fun δ=>(fa δ).bind fun p=>match p.1 with
 | .ex c=>some (.ex c,p.2)
 | .ok d=>(fr p.2).map fun q=>match q.1 with
  | .ex c=>(.ex c,q.2)
  | .as l=>(.as (.d d :: l),q.2)
section
variable {X:Cx} {W:WX} {a e:Expr} {es:List Expr} {pos:Pos} {M Ma Mr B:List Nat} {n:Nat}
theorem Q3C {f} (h:EV X e f [] M):EVX X W e (xOk f) M:=by
 obtain ⟨t,p,q⟩:=h
 refine ⟨t,p,fun Y F H δ σ A S r δ' e Q k=>?_⟩
 obtain ⟨⟨d,δ1⟩,e1,e2⟩:=Ql.mp e
 cases e2
 exact q Y F H δ σ A S d δ1 e1 Q fun v F' H' st S' r=>k v F' H' st S' r.nil
theorem Qk0 {f} (h:CVn X es f [] M n B):CVX X W es (xAs f) M n B:=by
 obtain ⟨⟨t,p,q⟩,hf⟩:=h
 refine ⟨⟨t,p,fun Y F H δ σ A S r δ' e Q k=>?_⟩,fun δ as δ' e=>?_⟩
 ·obtain ⟨⟨d,δ1⟩,e1,e2⟩:=Ql.mp e
  cases e2
  exact q Y F H δ σ A S d δ1 e1 Q k
 ·obtain ⟨⟨d,δ1⟩,e1,e2⟩:=Ql.mp e
  cases e2
  exact hf δ d δ1 e1
theorem Q1T:CVX X W [] (xAs V2) [] 0 []:=Qk0 Yb
theorem Q0Q {fa fr} (ha:EVX X W a fa Ma) (hr:CVX X W es fr Mr n B) (hs:starEach (a :: es) X.env = (false,eval a X.env) :: starEach es X.env:=by rfl):CVX X W (a :: es) (Q1q fa fr) (Ma ++ Mr) (n + 1) B:=by
 obtain ⟨ta,pa,qa⟩:=ha
 obtain ⟨⟨tb,pb,qb⟩,hf⟩:=hr
 refine ⟨⟨_,pa_cons pa pb hs,fun Y F H δ σ A S r δ' e Q k=>?_⟩,fun δ as δ' e=>?_⟩
 ·unfold Q1q at e
  cases e1:fa δ with
  | none=>rw [e1] at e; cases e
  | some w =>
   obtain ⟨r1,δ1⟩:=w
   rw [e1] at e
   simp only [Q1] at e
   refine qa Y F H δ σ A S r1 δ1 e1 _ ?_
   cases r1 with
   | ex c =>
    cases e
    exact fun F' H' C st S' hC=>k F' H' C (st.mono fun i hi=>Q9 _ hi) S' hC
   | ok d =>
    intro v F1 H1 st1 S1 rv
    obtain ⟨⟨r2,δ2⟩,e2,e3⟩:=Ql.mp e
    refine qb Y F1 H1 δ1 σ A S1 r2 δ2 e2 _ ?_
    cases r2 with
    | ex c =>
     cases e3
     exact fun F' H' C st S' hC=>k F' H' C (st1.trans S1 st) S' hC
    | as l =>
     cases e3
     exact fun vs F' H' st S' r=>k (v :: vs) F' H' (st1.trans S1 st) S' ⟨.inl (rv.mono st.f),r⟩
 ·unfold Q1q at e
  cases e1:fa δ with
  | none=>rw [e1] at e; cases e
  | some w =>
   obtain ⟨r1,δ1⟩:=w
   rw [e1] at e
   simp only [Q1] at e
   cases r1 with
   | ex c=>cases e
   | ok d =>
    obtain ⟨⟨r2,δ2⟩,e2,e3⟩:=Ql.mp e
    cases r2 with
    | ex c=>cases e3
    | as l =>
     cases e3
     obtain ⟨h1,h2⟩:=hf _ _ _ e2
     exact ⟨by rw [Qh,h1],h2⟩
end
structure KnX (X:Cx) (x:Str) (n m:Nat) (mv:Nat → Bool) (fr:FrO) (φ:List Sl → Option (Rs × List Sl)):Prop where
 ex:∃ (k:Nat) (a:Addr) (fd:FuncData) (ps:List Str),FnG X.prog X.w X.K X.mg X.base (CX X.prog X.w) k a fd ps (spX X.K n m mv fr φ) ∧ ps.length = n ∧ Room k X.A ∧ X.mg x = some (.ref a) ∧ PySem.W.keepIn X.K (.ref a) = true ∧ Binds X.K fd ps []
 gd:X.A.guards = some []
 gl:Gl X x
 db:(x == ("__debug__":Str)) = false
structure KnM (X:Cx) (c mth:Str) (n m:Nat) (mv:Nat → Bool) (fr:FrO) (φ:List Sl → Option (Rs × List Sl)):Prop where
 ex:∃ (C:Addr) (k:Nat) (a:Addr) (fd:FuncData) (ps:List Str),(∀ C',Q0r X.K c C' → C' = C) ∧ Cls X.K C ∧ Meth X.K C mth a ∧ FnG X.prog X.w X.K X.mg X.base (CX X.prog X.w) k a fd ps (spX X.K n m mv fr φ) ∧ ps.length = n ∧ Room k X.A ∧ Binds X.K fd ps []
 gd:X.A.guards = some []
def CPE (X:Cx) (W:WX) (e:Expr) (n m:Nat) (mv:Nat → Bool) (fr:FrO) (φ:List Sl → Option (Rs × List Sl)) (f:List Sl → Option (Ra × List Sl)) (M B:List Nat):Prop :=
 (∃ t,PE X e t ∧ ∀ (Y:Fx) (F H:Hp) (δ:List Sl) (σ:L2.St) (A:Nat → List Addr),SR X.K Y F H δ σ A → ∀ r δ1,f δ = some (r,δ1) → ∀ Q:VK,
  (match r with
   | .as as=>∀ vs F1 H1,Stp A M F H F1 H1 → SR X.K Y F1 H1 δ1 σ A → ArR X.K F1 H1 A [] σ vs as → spX X.K n m mv fr φ vs H1 Q (WE W σ)
   | .ex c=>∀ F' H' C,Stp A M F H F' H' → SR X.K Y F' H' δ1 σ A → Q0r X.K c C → W (.ref C) none σ H') → t σ H Q) ∧
 ∀ δ as δ',f δ = some (.as as,δ') → as.length = n ∧ ∀ i ∈ ios as,i ∈ B
section
variable {X:Cx} {W:WX} {x:Str} {o e:Expr} {es:List Expr} {p pos apos:Pos} {n m:Nat} {mv:Nat → Bool} {fr:FrO} {φ:List Sl → Option (Rs × List Sl)} {M B:List Nat}
def NoX:WX:=fun _ _ _ _=>False
theorem Q3T (σ:L2.St):PassesAt (CX X.prog X.w) X σ (WE NoX σ):=fun pins H s e s' I h=>by
 obtain ⟨_,_,_,_,_,_,_,_,_,_,_,_,z⟩:=h
 exact z.elim
theorem Q3d {f} (hx:∀ σ,PassesAt (CX X.prog X.w) X σ (WE W σ)) (kn:KnX X x n m mv fr φ) (h:CVX X W (e :: es) f M n B) (h1:starEach (e :: es) X.env = (false,eval e X.env) :: starEach es X.env:=by rfl) (h2:(backTo pos (starEach es X.env)).any (·.1) = false:=by rfl) :
  CPE X W (.Call (.Name x p) (e :: es) [] pos) n m mv fr φ f M B:=by
 obtain ⟨k,a,fd,ps,Fn,hn,hR,hm,hk,hb⟩:=kn.ex
 obtain ⟨⟨t,pa,q⟩,hf⟩:=h
 refine ⟨⟨_,Fn.peS (Es:=WE W) kn.gd hR kn.gl hm hk hb hx pa kn.db h1 h2,fun Y F H δ σ A S r δ1 e Q kk=>?_⟩,hf⟩
 refine q Y F H δ σ A S r δ1 e _ ?_
 cases r with
 | as l=>exact kk
 | ex c=>exact kk
end
def Q0P (js:List Nat) (φ:List Sl → Option (Rs × List Sl)) (f:List Sl → Option (Ra × List Sl)):List Sl → Option (Rs × List Sl):=fun δ=>(f δ).bind fun p=>match p.1 with
 | .ex c=>some (.ex c,p.2)
 | .as as=>if Q2X js as p.2 && Q6H js as 0 p.2 then (φ (asX js as p.2)).bind fun q=>if Q0Y js as p.2 q.2 then some (q.1,Q1s js as q.2 p.2) else none else none
def okR (g:List Sl → Option (Rs × List Sl)):List Sl → Option (D × List Sl):=fun δ=>(g δ).bind fun p=>match p.1 with
 | .ok d=>some (d,p.2)
 | .ex _=>none
theorem Q72 {js:List Nat} {φ f} {δ δ':List Sl} {r:Rs} (h:Q0P js φ f δ = some (r,δ')):(∃ c,r = .ex c ∧ f δ = some (.ex c,δ')) ∨ ∃ as δ1 outs,f δ = some (.as as,δ1) ∧ Q2X js as δ1 = true ∧ Q6H js as 0 δ1 = true ∧ φ (asX js as δ1) = some (r,outs) ∧ Q0Y js as δ1 outs = true ∧ δ' = Q1s js as outs δ1:=by
 unfold Q0P at h
 cases e1:f δ with
 | none=>rw [e1] at h; cases h
 | some w =>
  obtain ⟨ra,δ1⟩:=w
  rw [e1] at h
  simp only [Q1] at h
  cases ra with
  | ex c=>cases h; exact .inl ⟨c,rfl,rfl⟩
  | as l =>
   simp only at h
   split at h
   ·rename_i ok
    rw [Q5] at ok
    cases e2:φ (asX js l δ1) with
    | none=>rw [e2] at h; cases h
    | some w =>
     obtain ⟨d,outs⟩:=w
     rw [e2] at h
     simp only [Q1] at h
     split at h
     ·rename_i oo
      cases h
      exact .inr ⟨l,δ1,outs,rfl,ok.1,ok.2,e2,oo,rfl⟩
     ·cases h
   ·cases h
section
variable {K:PySem.W.Frag} {Y:Fx} {F H:Hp} {δ:List Sl} {σ:L2.St} {A:Nat → List Addr} {js:List Nat}
theorem SR.behindX0 {vs:List V} {as:List Ar} {F2 H2:Hp} {outs:List Sl} {σ2:L2.St} {A2:Nat → List Addr} (S:SR K Y F H δ σ A) (ok:Q2X js as δ = true) (r:ArR K F H A [] σ vs as)
  (st:QgI (Q4H A as js) (fun _=>false) (as.length + js.length) F H F2 H2) (mr:MvR (Q4H A as js) A2 (fun _=>false) H (vs.map some ++ Q67 js σ) σ2)
  (S2:SR K (Fx.args as.length) F2 H2 outs σ2 A2) (oo:Q0Y js as δ outs = true):Stp A (ios as ++ js) F H F2 H2 ∧ SR K Y F2 H2 (Q1s js as outs δ) σ A:=by
 have b:=S.behindX ok r st mr S2 oo (fun _ z=>by cases z) (fun _ z=>by cases z) (.inl fun _=>rfl)
 obtain ⟨nd,o1,o2,o3⟩:=Q4P ok
 obtain ⟨e1,e2⟩:=mr.same
 subst e1 e2
 have hA:AB js as.length (Q4H A as js) A = A:=by
  funext i
  by_cases c:i ∈ js
  ·rw [QcJ c,Zs,Q15 c]
  ·rw [Q65 c]
 have hσ:sgB js as.length (vs.map some ++ Q67 js σ) σ = σ:=by
  apply List.ext_getElem?
  intro i
  by_cases c:i ∈ js
  ·obtain ⟨s,es,_⟩:=o2 i c
   have hl:i < σ.length:=by rw [← S.len]; exact (Q8.mp es).1
   have z:=Q7C (n:=as.length) (σ2:=vs.map some ++ Q67 js σ) c hl
   rw [Q2O r (Q15 c)] at z
   have hl2:i < (sgB js as.length (vs.map some ++ Q67 js σ) σ).length:=by unfold sgB; rw [Q4,List.length_range]; exact hl
   rw [Qa hl,Qa hl2] at z ⊢
   exact congrArg some z
  ·exact Q45 c
 rw [hA,hσ] at b
 refine ⟨⟨st.f,fun a e n=>(st.nw a e n).elim id fun ⟨_,z,_⟩=>(by cases z),fun a o e n=>st.kp a o e fun j _ h=>?_⟩,b⟩
 rw [Zs] at h
 split at h
 ·rename_i i ei
  exact n i (Zq.mpr ⟨j,ei⟩) h
 ·simp at h
end
section
variable {X:Cx} {W:WX} {e:Expr} {n m:Nat} {φ:List Sl → Option (Rs × List Sl)} {f:List Sl → Option (Ra × List Sl)} {M B js:List Nat}
theorem QbG {as:List Ar} {i:Nat} (hB:∀ i ∈ ios as,i ∈ B) (hi:i ∈ M ++ (ios as ++ js)):i ∈ M ++ (B ++ js):=by
 rcases Qc.mp hi with h | h
 ·exact Q9 _ h
 ·rcases Qc.mp h with h | h
  ·exact Qd _ (Q9 _ (hB i h))
  ·exact Qd _ (Qd _ h)
theorem Q8C (h:CPE X NoX e n m (fun _=>false) (.f .n) φ f M B) (hj:js.length = m:=by rfl):EV X e (okR (Q0P js φ f)) [] (M ++ (B ++ js)):=by
 obtain ⟨⟨t,p,q⟩,hf⟩:=h
 refine ⟨t,p,fun Y F H δ σ A S d δ' e Q k=>?_⟩
 unfold okR at e
 obtain ⟨⟨r,δ2⟩,e1,e2⟩:=Qt.mp e
 rcases Q72 e1 with ⟨c,rfl,_⟩ | ⟨as,δ1,outs,e3,ok,sp,e4,oo,rfl⟩
 ·cases e2
 ·cases r with
  | ex c=>cases e2
  | ok d' =>
   cases e2
   obtain ⟨hn,hB⟩:=hf _ _ _ e3
   refine q Y F H δ σ A S _ δ1 e3 Q fun vs F1 H1 st S1 r=>?_
   subst hj hn
   refine ⟨F1,asX js as δ1,Q4H A as js,Q67 js σ,r.length,by unfold Q67; rw [Q4],by unfold asX; rw [Qb,Q4,Q4],S1.argsX ok r,.ok d,outs,e4,fun F2 H2 σ2 A2 st2 mr S2 v rv=>?_⟩
   obtain ⟨st3,S3⟩:=S1.behindX0 ok r st2 mr S2 oo
   exact k v F2 H2 ((st.trans S1 st3).mono fun i hi=>QbG hB hi) S3 (.inl rv)
theorem QfG (h:CPE X W e n m (fun _=>false) (.f .n) φ f M B) (hj:js.length = m:=by rfl):EVX X W e (Q0P js φ f) (M ++ (B ++ js)):=by
 obtain ⟨⟨t,p,q⟩,hf⟩:=h
 refine ⟨t,p,fun Y F H δ σ A S r δ' e Q k=>?_⟩
 rcases Q72 e with ⟨c,rfl,e3⟩ | ⟨as,δ1,outs,e3,ok,sp,e4,oo,rfl⟩
 ·exact q Y F H δ σ A S _ δ' e3 Q fun F' H' C st S' hC=>k F' H' C (st.mono fun i hi=>Q9 _ hi) S' hC
 ·obtain ⟨hn,hB⟩:=hf _ _ _ e3
  refine q Y F H δ σ A S _ δ1 e3 Q fun vs F1 H1 st S1 ra=>?_
  subst hj hn
  refine ⟨F1,asX js as δ1,Q4H A as js,Q67 js σ,ra.length,by unfold Q67; rw [Q4],by unfold asX; rw [Qb,Q4,Q4],S1.argsX ok ra,r,outs,e4,fun F2 H2 σ2 A2 st2 mr S2=>?_⟩
  obtain ⟨st3,S3⟩:=S1.behindX0 ok ra st2 mr S2 oo
  cases r with
  | ok d=>exact fun v rv=>k v F2 H2 ((st.trans S1 st3).mono fun i hi=>QbG hB hi) S3 rv
  | ex c=>exact fun C hC=>k F2 H2 C ((st.trans S1 st3).mono fun i hi=>QbG hB hi) S3 hC
end
end Z
namespace Z
open PySem PySem.Spec PyProof.Rows L2
section
variable {X:Cx} {W:WX} {io:Iom} {vt:Nat → Bool} {fr:FrO} {pos:Pos} {e a b:Expr} {f:List Sl → Option (Rs × List Sl)} {M Ma Mb:List Nat}
def x2 (g:D → D → Option D) (fa:List Sl → Option (Rs × List Sl)) (fb:List Sl → Option (D × List Sl)):List Sl → Option (Rs × List Sl):=fun δ=>(fa δ).bind fun p=>match p.1 with
 | .ex c=>some (.ex c,p.2)
 | .ok d=>(fb p.2).bind fun q=>(g d q.1).map fun z=>(.ok z,q.2)
def Q7y (f:List Sl → Option (Rs × List Sl)):List Sl → Option Ox:=fun δ=>(f δ).map fun p=>match p.1 with
 | .ok _=>.o (.nx p.2)
 | .ex c=>.ex c p.2
theorem Qjg (h:EVX X W e f M) (hs:swapsWith e none pos.line X.env = pure false:=by rfl):SX X W io vt fr (.Expr e pos) (Q7y f):=by
 obtain ⟨t,p,q⟩:=h
 refine ⟨_,ps_expr p hs,fun Y F H δ σ A hY hv S o e D k=>?_⟩
 unfold Q7y at e
 obtain ⟨⟨r,δ1⟩,e1,e2⟩:=Ql.mp e
 refine q Y F H δ σ A S r δ1 e1 _ ?_
 cases r with
 | ok d=>subst e2; exact fun v F1 H1 st S1 _=>k σ F1 H1 A st.f S1
 | ex c=>subst e2; exact fun F1 H1 C st S1 hC=>k σ σ F1 H1 A C st.f (GE.refl _) S1 hC
def Q77 (i:Nat) (f:List Sl → Option (Rs × List Sl)):List Sl → Option Ox:=fun δ=>(f δ).bind fun p=>match p.1 with
 | .ok d=>if i < p.2.length then some (.o (.nx (p.2.set i (.fz d)))) else none
 | .ex c=>some (.ex c p.2)
structure XC (K:PySem.W.Frag) (mg:Str → Option Value) (c:Str):Prop where
 ex:∃ C,mg c = some (.ref C) ∧ Q0r K c C ∧ PySem.W.excIn K C [.type "ValueError",.type "Exception",.type "BaseException",.type "object"] "ValueError.__new__" = true ∧ PySem.W.keepIn K (.ref C) = true ∧ PySem.W.subIn K (.ref C) (.type "BaseException") = some true ∧ PySem.W.typeIn K (.ref C) = some (.type "type")
def Q36 (c:Str):List Sl → Option Ox:=fun δ=>some (.ex c δ)
theorem Q2r {c m:Str} {j:Nat} {p p2 pos':Pos} (hc:X.calm = true) (tk:Takes X W) (xc:XC X.K X.mg c) (gl:Gl X c:=by rfl) (db:(c == ("__debug__":Str)) = false:=by decide):SX X W io vt fr (.Raise (some (.Call (.Name c p) [.Constant (.str m) j p2] [] pos)) none pos') (Q36 c):=by
 obtain ⟨C,h1,h2,h3,h4,h5,h6⟩:=xc.ex
 refine ⟨_,ps_raise hc tk (pmk_own PySem.F.excBase_ValueError h3 h1 h4 (raises_own h5 h6) gl db),fun Y F H δ σ A hY hv S o e D k=>?_⟩
 cases e
 exact k σ σ F H A C (Same.refl _) (GE.refl _) S h2
end
end Z
namespace Z
open PySem PySem.Spec PyProof.Rows L2

end Z
namespace Z
open PySem PySem.Spec PyProof.Rows L2
section
variable {K:PySem.W.Frag} {Y:Fx} {F H F' H':Hp} {δ:List Sl} {σ:L2.St} {A:Nat → List Addr}
theorem SR.keep (S:SR K Y F H δ σ A) (f:Same F F') (nw:∀ a,F a = none → F' a ≠ none → H a = none) (kp:∀ a o,H a = some o → H' a = some o) (sub:Same F' H'):SR K Y F' H' δ σ A:=by
 have same:∀ i a,a ∈ A i → H' a = H a:=fun i a m=>by
  obtain ⟨u,q⟩:=(S.there m).some
  rw [q,kp a _ q]
 refine ⟨S.len,fun i s e=>(S.slot i s e).mono f (same i),S.out,S.dis,fun i a m=>?_,S.new,sub,S.fix,S.ioA,fun a o e n=>kp a o (S.kp a o e n),fun a e n=>?_,S.f0.trans f,S.lio,S.obK fun i _ _ _=>same i,S.vno⟩
 ·cases q:F' a with
  | none=>rfl
  | some o=>exact absurd (nw a (S.hid i a m) (by rw [q]; simp)) (S.isSome m)
 ·cases q:F a with
  | some o=>exact S.nw a e (by rw [q]; simp)
  | none=>exact S.fresh0 (nw a q n)
end
section
variable {X:Cx} {W:WX} {io:Iom} {vt:Nat → Bool} {fr:FrO} {pos:Pos} {e:Expr} {es:List Expr} {c x:Str} {sh:List (Str × Bool)} {M B js:List Nat} {n m:Nat} {φ:List Sl → Option (Rs × List Sl)}
structure KnC (X:Cx) (c:Str) (n m:Nat) (mv:Nat → Bool) (φ:List Sl → Option (Rs × List Sl)):Prop where
 ex:∃ (C:Addr) (k:Nat) (a:Addr) (fd:FuncData) (ps:List Str),Q0r X.K c C ∧ X.mg c = some (.ref C) ∧ L2.Mk X.K C a ∧ FnG X.prog X.w X.K X.mg X.base (CX X.prog X.w) k a fd ps (spX X.K n m mv (.f .n) φ) ∧ ps.length = n ∧ Room (k + 1) X.A ∧ Binds X.K fd ps []
 gd:X.A.guards = some []
 gl:Gl X c
 db:(c == ("__debug__":Str)) = false
end
end Z
namespace Z
open PySem PySem.Spec PyProof.Rows L2

end Z
namespace Z
open PySem PySem.Spec PyProof.Rows L2


end Z
namespace Z
open PySem PySem.Spec PyProof.Rows L2
structure Q7P (K:PySem.W.Frag) (mg:Str → Option Value) (ns:List Str):Prop where
 b:QjY K ns = true
 m:∀ c C,Q0r K c C → mg c = some (.ref C)
section
variable {K:PySem.W.Frag} {mg:Str → Option Value} {ns:List Str}
structure QhS (K:PySem.W.Frag) (C:Addr):Prop where
 e:PySem.W.excIn K C [.type "ValueError",.type "Exception",.type "BaseException",.type "object"] "ValueError.__new__" = true
 k:PySem.W.keepIn K (.ref C) = true
 s:PySem.W.subIn K (.ref C) (.type "BaseException") = some true
 t:PySem.W.typeIn K (.ref C) = some (.type "type")
 x:ExcC K C
 v:PySem.W.kitOne K (.ref C) (.type "ValueError") = some true
theorem QbO {C:Addr} (h:QeO K C = true):QhS K C:=by
 unfold QeO at h
 simp only [Q5,beq_iff_eq] at h
 obtain ⟨⟨⟨⟨⟨⟨⟨⟨⟨⟨⟨h1,h2⟩,h3⟩,h4⟩,h5⟩,h6⟩,h7⟩,h8⟩,h9⟩,h10⟩,h11⟩,h12⟩:=h
 have h4':PySem.W.typeIn K (.ref C) = some (.type "type"):=by
  split at h4
  ·rename_i t e; rw [e,beq_iff_eq.mp h4]
  ·cases h4
 have h5':PySem.W.findIn K (.ref C) "__getattribute__" = some (some (.builtin "BaseException.__getattribute__")):=by
  split at h5
  ·rename_i t e; rw [e,beq_iff_eq.mp h5]
  ·cases h5
 have h6':PySem.W.findIn K (.ref C) "__getattr__" = some none:=by
  split at h6
  ·rename_i e; exact e
  ·cases h6
 have h8':PySem.W.findIn K (.ref C) "__class__" = some (some (.builtin "object.__class__")):=by
  split at h8
  ·rename_i t e; rw [e,beq_iff_eq.mp h8]
  ·cases h8
 have h9':PySem.W.specialIn K (.builtin "object.__class__") "__get__" = some (some (.builtin "getset_descriptor.__get__")):=by
  split at h9
  ·rename_i t e; rw [e,beq_iff_eq.mp h9]
  ·cases h9
 exact ⟨h1,h2,h3,h4',⟨h5',h6',h3,h7,h8',h9',h10,h11⟩,h12⟩
theorem Q7P.at_ (T:Q7P K mg ns) {c:Str} (h:ns.contains c = true):∃ C,Q0r K c C ∧ mg c = some (.ref C) ∧ QhS K C ∧ ∀ d,ns.contains d = true → ∃ D,Q0r K d D ∧ PySem.W.kitOne K (.ref C) (.ref D) = some (Q29 c d) ∧ PySem.W.exmOne K (.ref C) (.ref D) = some (Q29 c d):=by
 have q:=Qe.mp T.b c (Jn.mp h)
 split at q
 case h_2=>cases q
 rename_i C e
 rw [Q5] at q
 refine ⟨C,e,T.m c C e,QbO q.1,fun d hd=>?_⟩
 have q2:=Qe.mp q.2 d (Jn.mp hd)
 split at q2
 case h_2=>cases q2
 rename_i D e2
 rw [Q5,beq_iff_eq,beq_iff_eq] at q2
 exact ⟨D,e2,q2.1,q2.2⟩
theorem Q2o {c:Str} {C D:Addr} (h:Q0r K c C) (h':Q0r K c D):C = D:=by
 unfold Q0r at h h'
 rw [h] at h'
 injection h' with h'
 injection h' with h'
 injection h' with h'
theorem Q7P.xc (T:Q7P K mg ns) {c:Str} (h:ns.contains c = true:=by rfl):XC K mg c:=by
 obtain ⟨C,h1,h2,h3,_⟩:=T.at_ h
 exact ⟨C,h2,h1,h3.e,h3.k,h3.s,h3.t⟩
end
section
variable {X:Cx} {W:WX} {io:Iom} {vt:Nat → Bool} {fr:FrO} {st:List Stmt} {g:List Sl → Option Ox}
def tBX (X:Cx) (W:WX) (io:Iom) (vt:Nat → Bool) (fr:FrO) (g:List Sl → Option Ox):TS:=fun D σ H=>∃ (Y:Fx) (F:Hp) (δ:List Sl) (A:Nat → List Addr) (o:Ox),Y.io = io ∧ (∀ i,vt i = true → Y.vt i = true ∧ Y.lt i = false) ∧ SR X.K Y F H δ σ A ∧ g δ = some o ∧ Q8J X Y fr W F D o
theorem BX.pss (h:BX X W io vt fr st g):PSs X st (tBX X W io vt fr g):=by
 obtain ⟨t,p,q⟩:=h
 refine ⟨fun pins s σ H D I ⟨Y,F,δ,A,o,h1,h2,h3,h4,h5⟩=>?_⟩
 exact p.run pins s σ H D I (q Y F H δ σ A h1 h2 h3 o h4 D h5)
def wOx (i:Nat):Ox → Ox
 | .o (.nx δ)=>.o (.nx (δ.set i .no))
 | .o (.ct δ)=>.o (.ct (δ.set i .no))
 | .o (.rt d δ)=>.o (.rt d (δ.set i .no))
 | .ex c δ=>.ex c δ
def QhG:Ox → Bool
 | .ex _ _=>true
 | _=>false
open Classical in
/-- try: .. except D as x (slot i) -/
noncomputable def Q3J (ns:List Str) (dc:Str) (i:Nat) (gb:List Sl → Option Ox) (gs:Str → Addr → List Sl → Option Ox):List Sl → Option Ox:=fun δ=>(gb δ).bind fun o=>match o with
 | .ex c δ1=>if ns.contains c then if Q29 c dc then if i < δ1.length then if h:∃ r,QhG r = false ∧ ∀ a,(gs c a (δ1.set i (.xv a))).map (wOx i) = some r then some h.choose else none else none else some (.ex c δ1) else none
 | o=>some o
end
def tSu (X:Cx) (ns:List Str) (io:Iom) (vt:Nat → Bool) (fr:FrO) (gs:Str → List Sl → Option Ox):Value → Option Addr → TS:=fun cls d D σ H=>∃ c C,ns.contains c = true ∧ Q0r X.K c C ∧ cls = .ref C ∧ d = none ∧ tsG X (tBX X NoX io vt fr (gs c)) D σ H
theorem Qg8 {X:Cx} {D:Ends} {σ:L2.St} {H:Hp} (h:D.nx σ H):(Qfg X D).nx σ H:=⟨σ,GE.refl σ,h⟩
theorem QiJ {i:Nat} {o:Ox} (h:QhG (wOx i o) = false):∃ o',o = .o o':=by
 cases o with
 | o o=>exact ⟨o,rfl⟩
 | ex c δ=>cases h
section
variable {X:Cx} {W:WX} {io:Iom} {vt:Nat → Bool} {fr:FrO} {pos pos' np:Pos} {x n dc:Str} {ns:List Str} {body suite:List Stmt} {b₀:Stmt} {i:Nat} {gb:List Sl → Option Ox}
theorem Qgc {gs:Str → Addr → List Sl → Option Ox} (hs:X.stack = X.env :: X.outer) (hf:X.env.frame = some X.env.locals) (T:Q7P X.K X.mg ns) (hd:ns.contains dc = true) (gl:Gl X dc) (db:(dc == ("__debug__":Str)) = false) (hio:io i = false) (tg:Tg X i n) (hln:X.env.kindOf n = some .local) (hl2:Loc X.env.scope n → Vis X.env.scope n) (tk:Takes X W)
  (hb:∀ (W':WX) (pn:List (Addr × Obj)) (xe:Value → Shared → Prop),Takes (X.tr pn xe) W' → PassesOwn (model X.prog X.w) X.A X.env xe → BX (X.tr pn xe) W' io vt fr body gb)
  (hsu:∀ (c:Str) (a C:Addr) (oe:Obj) (pn:List (Addr × Obj)),ns.contains c = true → Q0r X.K c C → Zc (.ref C) none oe → (∃ vs,oe.data = Data.fields vs) → BX (X.suite a ((a,oe) :: pn)) NoX io vt fr (b₀ :: suite) (gs c a)) :
  SX X W io vt fr (.Try body [.ExceptHandler (some (.Name dc np)) (some n) (b₀ :: suite) pos'] [] [] pos) (Q3J ns dc i gb gs):=by
 obtain ⟨D0,hD1,hD2,hD3,_⟩:=T.at_ hd
 refine ⟨_,ps_try_as (c:=.ref D0) (tb:=fun W'=>tBX X W' io vt fr gb) (ts:=fun a=>tSu X ns io vt fr (fun c=>gs c a)) hs hf tg.nd tg.at_ hln ⟨gl,db,.inl hD2⟩ tk (fun W' pn xe h1 h2=>(hb W' pn xe h1 h2).pss) (fun a oe cls d pn hz hf'=>?_),fun Y F H δ σ A hY hv S o e D k=>?_⟩
 ·refine ⟨fun pins s σ H D I ⟨c,C,q1,q2,q3,q4,q5⟩=>?_⟩
  subst q3 q4
  exact (Qid (hsu c a C oe pn q1 q2 hz hf').pss).run pins s σ H D I q5
 unfold Q3J at e
 obtain ⟨ob,e1,e2⟩:=Qt.mp e
 refine ⟨Y,F,δ,A,ob,hY,hv,S,e1,?_⟩
 cases ob with
 | o o1=>cases e2; cases o1 <;> exact k
 | ex c δ1 =>
  simp only at e2
  split at e2
  case isFalse=>cases e2
  rename_i hc
  intro σ0 σ' F' H' A' C sF hge S' hC
  obtain ⟨C',c1,c2,c3,c4⟩:=T.at_ hc
  have:=Q2o hC c1
  subst this
  obtain ⟨D1,d1,d2,d3⟩:=c4 dc hd
  have:=Q2o d1 hD1
  subst this
  split at e2
  ·rename_i hsub
   split at e2
   case isFalse=>cases e2
   rename_i hi
   split at e2
   case isFalse=>cases e2
   rename_i hex
   cases e2
   obtain ⟨r1,r2⟩:=hex.choose_spec
   refine ⟨true,by rw [d3,hsub],fun _ a ha=>?_,fun z=>(by cases z)⟩
   have ra:=r2 a
   obtain ⟨og,eg,ew⟩:=Ql.mp ra
   obtain ⟨og',rfl⟩:=QiJ (by rw [ew]; exact r1)
   have hio':Y.io i = false:=by rw [hY]; exact hio
   have S2:=S'.put (i:=i) hi hio' (s:=.xv a) (v:=some (.ref a)) (l:=[]) (fun _ _=>by simp) ⟨rfl,rfl⟩ (by simp) (by simp) (by simp)
   refine ⟨c,C,hc,hC,rfl,rfl,σ'.set i (some (.ref a)),⟨by rw [Qv,Qv]; exact hge.1,fun k' y hy vy=>?_⟩,Y,F',δ1.set i (.xv a),_,.o og',hY,hv,S2,eg,?_⟩
   ·by_cases c5:k' = i
    ·subst c5
     have l1:k' < σ'.length:=by rw [← S'.len]; exact hi
     rw [Qo l1,Qo (by rw [← hge.1]; exact l1)]
    ·rw [Qk (Ne.symm c5),Qk (Ne.symm c5)]
     exact hge.2 k' y hy vy
   have k:=k.mono sF
   rw [← ew] at k
   have fin:∀ {σ2:L2.St} {F2 H2:Hp} {δ2:List Sl} {A2:Nat → List Addr},SR X.K Y F2 H2 δ2 σ2 A2 → ∃ A3,SR X.K Y F2 H2 (δ2.set i .no) (σ2.set i none) A3:=fun {σ2 F2 H2 δ2 A2} S3=>by
    by_cases hl:i < δ2.length
    ·exact ⟨_,S3.putNo hl hio'⟩
    ·refine ⟨A2,?_⟩
     rw [List.set_eq_of_length_le (by omega),List.set_eq_of_length_le (by rw [← S3.len]; omega)]
     exact S3
   have fin2:∀ {σ2:L2.St} {F2 H2:Hp} {δ2:List Sl} {A2:Nat → List Addr},SR X.K Y F2 H2 δ2 σ2 A2 → ∃ A3,SR X.K Y F2 H2 (δ2.set i .no) σ2 A3 ∧ ∀ j,j ≠ i → A3 j = A2 j:=fun {σ2 F2 H2 δ2 A2} S3=>by
    by_cases hl:i < δ2.length
    ·exact ⟨_,S3.wipe1 hl hio',fun j hj=>Kl hj⟩
    ·refine ⟨A2,?_,fun _ _=>rfl⟩
     rw [List.set_eq_of_length_le (by omega)]
     exact S3
   cases og' with
   | nx δ2 =>
    intro σ2 F2 H2 A2 s2 S3
    obtain ⟨A3,S4⟩:=fin S3
    exact Qg8 (D:={ nx:=fun σ' H'=>D.nx (σ'.set i none) H',rt:=D.rt,bk:=fun σ' H'=>D.bk (σ'.set i none) H',ct:=fun σ' H'=>D.ct (σ'.set i none) H' }) (k (σ2.set i none) F2 H2 A3 s2 S4)
   | ct δ2 =>
    intro σ2 F2 H2 A2 s2 S3
    obtain ⟨A3,S4⟩:=fin S3
    exact ⟨σ2,GE.refl σ2,k (σ2.set i none) F2 H2 A3 s2 S4⟩
   | rt d δ2 =>
    intro v σ2 F2 H2 A2 s2 S3 rr
    obtain ⟨A3,S4,hA⟩:=fin2 S3
    refine k v σ2 F2 H2 A3 s2 S4 ?_
    have ne:∀ j,Y.io j = true → j ≠ i:=fun j hj z=>by rw [z,hio'] at hj; cases hj
    cases fr with
    | o c' sh=>exact rr
    | f f0 =>
     cases f0 with
     | n=>exact rr
     | t=>exact rr
     | l =>
      obtain ⟨p,g1,g2,g3,g4,g5⟩:=rr
      exact ⟨p,g1,g2,g3,fun j hj=>by rw [hA j (ne j hj)]; exact g4 j hj,g5⟩
     | p =>
      obtain ⟨a',p',q',d0,d1,rv,rd,ha,ne',⟨h0,hF,h4,ow⟩,h1,hF1,h5,ow1⟩:=rr
      exact ⟨a',p',q',d0,d1,rv,rd,ha,ne',⟨h0,hF,fun j hj=>by rw [hA j (ne j hj)]; exact h4 j hj,ow⟩,h1,hF1,fun j hj=>by rw [hA j (ne j hj)]; exact h5 j hj,ow1⟩
     | s j =>
      obtain ⟨g1,g2,p,g3,g4⟩:=rr
      exact ⟨g1,g2,p,g3,by rw [hA j (ne j g2)]; exact g4⟩
  ·rename_i hsub
   cases e2
   refine ⟨false,by rw [d3]; simpa using hsub,fun z=>(by cases z),fun _=>?_⟩
   exact k σ0 σ' F' H' A' C sF hge S' hC
end
end Z
namespace Z
open PySem PySem.Spec PyProof.Rows L2
def fXv (i:Nat) (a:Addr) (b:Bool):List Sl → Option (D × List Sl):=fun δ=>match δ[i]? with
 | some (.xv a')=>if a' = a then some (.bool b,δ) else none
 | _=>none
theorem Q7V {i:Nat} {a:Addr} {b:Bool} {δ:List Sl} {r:D × List Sl} (h:fXv i a b δ = some r):δ[i]? = some (.xv a) ∧ r = (.bool b,δ):=by
 unfold fXv at h
 split at h
 ·rename_i a' e
  split at h
  ·rename_i c; subst c; exact ⟨e,(Ja.inj h).symm⟩
  ·cases h
 ·cases h
theorem Qg2 {i:Nat} {a:Addr} {b:Bool} {δ:List Sl} (h:δ[i]? = some (.xv a):=by rfl):fXv i a b δ = some (.bool b,δ):=by
 unfold fXv
 rw [h]
 simp
section
variable {X:Cx} {a C:Addr} {oe:Obj} {pn:List (Addr × Obj)} {c d ex:Str} {ns:List Str} {i:Nat} {p p1 p2 pos:Pos}
theorem Qjc (T:Q7P X.K X.mg ns) (hc:ns.contains c = true) (hC:Q0r X.K c C) (hz:Zc (.ref C) none oe) (hf:∃ vs,oe.data = Data.fields vs) (b:Bn (X.suite a ((a,oe) :: pn)) "isinstance" (.builtin "isinstance")) (n:Nm (X.suite a ((a,oe) :: pn)) i ex) (gl:Gl X d) (db:(d == ("__debug__":Str)) = false) (hd:ns.contains d = true)
  (h1:starEach [.Name ex p1,.Name d p2] X.env = (false,eval (.Name ex p1) X.env) :: starEach [.Name d p2] X.env) (h2:(backTo pos (starEach [.Name d p2] X.env)).any (·.1) = false) (h3:starEach [.Name d p2] X.env = [(false,eval (.Name d p2) X.env)]) :
  EV (X.suite a ((a,oe) :: pn)) (.Call (.Name "isinstance" p) [.Name ex p1,.Name d p2] [] pos) (fXv i a (Q29 c d)) [] []:=by
 obtain ⟨C',k1,k2,k3,k4⟩:=T.at_ hc
 have:=Q2o hC k1
 subst this
 obtain ⟨D0,d1,d2,d3⟩:=k4 d hd
 have mD:X.mg d = some (.ref D0):=T.m d D0 d1
 have pD:PE (X.suite a ((a,oe) :: pn)) (.Name d p2) (tC (.ref D0)):=pe_glob (v:=V.ref D0) gl mD rfl db
 refine ⟨_,pe_callB (call_isE (pn:=pn) k3.x hz hf) b.gl b.mg b.bt (pa_cons n.pe (pa_cons pD pa_nil h3) h1) b.nn b.db h1 h2,fun Y F H δ σ A S z δ' e Q k=>?_⟩
 obtain ⟨e1,e2⟩:=Q7V e
 cases e2
 obtain ⟨_,v1⟩:=S.slot i _ e1
 exact ⟨.ref a,Wh v1,.ref D0,.ref D0,Q29 c d,rfl,fun u z=>(by cases z; rfl),d2,k _ F H Stp.refl S (.inl (.bl _))⟩
theorem QhI (T:Q7P X.K X.mg ns) (hc:ns.contains c = true) (hC:Q0r X.K c C) (hz:Zc (.ref C) none oe) (hf:∃ vs,oe.data = Data.fields vs) (b:Bn (X.suite a ((a,oe) :: pn)) "isinstance" (.builtin "isinstance")) (n:Nm (X.suite a ((a,oe) :: pn)) i ex) (v:Bn (X.suite a ((a,oe) :: pn)) "ValueError" (.type "ValueError"))
  (h1:starEach [.Name ex p1,.Name "ValueError" p2] X.env = (false,eval (.Name ex p1) X.env) :: starEach [.Name "ValueError" p2] X.env) (h2:(backTo pos (starEach [.Name "ValueError" p2] X.env)).any (·.1) = false) (h3:starEach [.Name "ValueError" p2] X.env = [(false,eval (.Name "ValueError" p2) X.env)]) :
  EV (X.suite a ((a,oe) :: pn)) (.Call (.Name "isinstance" p) [.Name ex p1,.Name "ValueError" p2] [] pos) (fXv i a true) [] []:=by
 obtain ⟨C',k1,k2,k3,k4⟩:=T.at_ hc
 have:=Q2o hC k1
 subst this
 have pD:PE (X.suite a ((a,oe) :: pn)) (.Name "ValueError" p2) (tC (.ty "ValueError")):=pe_bltn v.gl v.mg v.bt rfl v.nn v.db
 refine ⟨_,pe_callB (call_isE (pn:=pn) k3.x hz hf) b.gl b.mg b.bt (pa_cons n.pe (pa_cons pD pa_nil h3) h1) b.nn b.db h1 h2,fun Y F H δ σ A S z δ' e Q k=>?_⟩
 obtain ⟨e1,e2⟩:=Q7V e
 cases e2
 obtain ⟨_,v1⟩:=S.slot i _ e1
 exact ⟨.ref a,Wh v1,.ty "ValueError",.type "ValueError",true,rfl,fun u z=>(by cases z; rfl),k3.v,k _ F H Stp.refl S (.inl (.bl _))⟩
inductive Qb4 (X:Cx) (ns:List Str):List Expr → List Str → Prop
 | nil:Qb4 X ns [] []
 | cons {d:Str} {p:Pos} {es:List Expr} {ds:List Str}:ns.contains d = true → Gl X d → (d == ("__debug__":Str)) = false → starEach (.Name d p :: es) X.env = (false,eval (.Name d p) X.env) :: starEach es X.env → Qb4 X ns es ds → Qb4 X ns (.Name d p :: es) (d :: ds)
def QkB (us:List Addr):TA:=fun _ H Q=>Q (us.map V.ref) H
theorem Qb4.pa {X:Cx} {ns:List Str} (T:Q7P X.K X.mg ns):∀ {es:List Expr} {ds:List Str},Qb4 X ns es ds → ∃ us:List Addr,us.length = ds.length ∧ (∀ (k:Nat) D d,us[k]? = some D → ds[k]? = some d → ns.contains d = true ∧ Q0r X.K d D) ∧ PA X es (QkB us)
 | _,_,.nil=>⟨[],rfl,fun k D d e=>by simp at e,pa_nil⟩
 | _,_,.cons (d:=d) hd gl db hs r=>by
  obtain ⟨us,h1,h2,h3⟩:=Qb4.pa T r
  obtain ⟨D,d1,d2,_⟩:=T.at_ hd
  refine ⟨D :: us,congrArg (· + 1) h1,fun k D' d' e1 e2=>?_,pa_cons (pe_glob (v:=V.ref D) gl d2 rfl db) h3 hs⟩
  cases k with
  | zero=>cases e1; cases e2; exact ⟨hd,d1⟩
  | succ k=>exact h2 k D' d' e1 e2
theorem Q7L:∀ {us:List Addr} {vs:List Value},Vals (us.map V.ref) vs → vs = us.map Value.ref
 | [],_,.nil=>rfl
 | u :: us,_,.cons r h=>by
  cases r
  rw [Q7L h]
  rfl
theorem Q6q {K:PySem.W.Frag} {t:Value}:∀ {us:List Value} {bs:List Bool},us.length = bs.length → (∀ (i:Nat) u b,us[i]? = some u → bs[i]? = some b → PySem.W.kitOne K t u = some b) → PySem.W.kitAny K t us = some (bs.any id)
 | [],[],_,_=>rfl
 | u :: us,b :: bs,hl,h=>by
  have h0:=h 0 u b rfl rfl
  have ih:=Q6q (K:=K) (t:=t) (us:=us) (bs:=bs) (by simpa using hl) fun i u' b' e1 e2=>h (i + 1) u' b' e1 e2
  show (match PySem.W.kitOne K t u with | some true=>some true | some false=>PySem.W.kitAny K t us | none=>none) = _
  rw [h0]
  cases b with
  | true=>rfl
  | false=>simpa using ih
 | [],_ :: _,hl,_=>by cases hl
 | _ :: _,[],hl,_=>by cases hl
def QkL (K:PySem.W.Frag) (C a:Addr):List V → Hp → VK → Prop:=fun xs H Q=>∃ tp cs us b,xs = [.ref a,.ref tp] ∧ H tp = some (.tup cs) ∧ (∀ vs,Vals cs vs → vs = us) ∧ PySem.W.kitAny K (.ref C) us = some b ∧ Q (.bl b) H
theorem QdA (x:ExcC X.K C) (hz:Zc (.ref C) none oe) (hf:∃ vs,oe.data = Data.fields vs):CallR (X.suite a ((a,oe) :: pn)) (.builtin "isinstance") (QkL X.K C a):=by
 intro pins s σ H xs us Q I r h
 obtain ⟨tp,cs,us',b,rfl,ht,hcs,hk,q⟩:=h
 match us,r with
 | [u1,u2],.cons r1 (.cons r2 .nil) =>
  cases r1
  cases r2
  obtain ⟨_,its,hv,hT⟩:=I.hok tp _ ht
  have:=hcs its hv
  subst this
  obtain ⟨hget,hrest⟩:=I.pin (a,oe) (Q9 _ Q7)
  obtain ⟨cls,dd,data,sl⟩:=oe
  obtain ⟨z1,z2⟩:=hz
  obtain ⟨vs,hf⟩:=hf
  cases hf
  cases z1
  cases z2
  have J:PySem.W.InstAt s.heap a ⟨.ref C,none,Data.fields vs,sl⟩ C none:=⟨hget,rfl,rfl,trivial⟩
  obtain ⟨⟨tc,td,tdt,tsl⟩,tn,t1,t2⟩:=hT
  cases t1
  obtain ⟨nn,t2⟩:=t2
  have t2:tdt = Data.seq its.toArray nn:=t2
  subst t2
  exact PySem.W.kia_tup (PySem.W.handS_kitx_exc x.hg x.hk x.hs x.hd x.ha x.hn x.ht x.hm) I.kIn J tn hk (fun z=>nomatch z) fun tk=>⟨.bl b,H,I.kept fun _ _ z=>z,rfl,q⟩
theorem QhE {es:List Expr} {ds:List Str} {k:Nat} {tpos:Pos} (T:Q7P X.K X.mg ns) (hc:ns.contains c = true) (hC:Q0r X.K c C) (hz:Zc (.ref C) none oe) (hf:∃ vs,oe.data = Data.fields vs) (b:Bn (X.suite a ((a,oe) :: pn)) "isinstance" (.builtin "isinstance")) (n:Nm (X.suite a ((a,oe) :: pn)) i ex) (hes:Qb4 (X.suite a ((a,oe) :: pn)) ns es ds)
  (hl:decide (ds.length ≤ 1000) = true) (h1:starEach [.Name ex p1,.Tuple es k tpos] X.env = (false,eval (.Name ex p1) X.env) :: starEach [.Tuple es k tpos] X.env) (h2:(backTo pos (starEach [.Tuple es k tpos] X.env)).any (·.1) = false) (h3:starEach [.Tuple es k tpos] X.env = [(false,eval (.Tuple es k tpos) X.env)]) :
  EV (X.suite a ((a,oe) :: pn)) (.Call (.Name "isinstance" p) [.Name ex p1,.Tuple es k tpos] [] pos) (fXv i a (ds.any (Q29 c))) [] []:=by
 obtain ⟨C',k1,k2,k3,k4⟩:=T.at_ hc
 have:=Q2o hC k1
 subst this
 obtain ⟨us,l1,l2,pT⟩:=Qb4.pa (X:=X.suite a ((a,oe) :: pn)) (show Q7P (X.suite a ((a,oe) :: pn)).K (X.suite a ((a,oe) :: pn)).mg ns from T) hes
 refine ⟨_,pe_callB (QdA (pn:=pn) k3.x hz hf) b.gl b.mg b.bt (pa_cons n.pe (pa_cons (pe_tup pT) pa_nil h3) h1) b.nn b.db h1 h2,fun Y F H δ σ A S z δ' e Q kk=>?_⟩
 obtain ⟨e1,e2⟩:=Q7V e
 cases e2
 obtain ⟨_,v1⟩:=S.slot i _ e1
 refine ⟨.ref a,Wh v1,?_⟩
 refine ⟨by rw [Q4,l1]; exact J3 (of_decide_eq_true hl) (by rw [sizeLine_eq]; omega),fun tp htp=>?_⟩
 refine ⟨tp,us.map V.ref,us.map Value.ref,_,rfl,upd_same,fun vs hv=>Q7L hv,Q6q (bs:=ds.map (Q29 c)) (by rw [Q4,Q4,l1]) (fun j u bb e3 e4=>?_),?_⟩
 ·rw [Qp] at e3 e4
  obtain ⟨D0,e5,rfl⟩:=Ql.mp e3
  obtain ⟨d0,e6,rfl⟩:=Ql.mp e4
  obtain ⟨hd,hD⟩:=l2 j D0 d0 e5 e6
  obtain ⟨D1,d1,d2,d3⟩:=k4 d0 hd
  rw [Q2o hD d1]
  exact d2
 ·have:((ds.map (Q29 c)).any id) = ds.any (Q29 c):=by rw [List.any_map]; rfl
  rw [this]
  exact kk _ F _ (Stp.laidO htp) (S.laidO htp) (.inl (.bl _))
end
end Z
namespace Z
open PySem PySem.Spec PyProof.Rows L2


end Z
namespace Z
open PySem PySem.Spec PyProof.Rows L2
section
variable {X:Cx} {W:WX} {e kx:Expr} {es:List Expr} {pos spos np:Pos} {x:Str}
structure TabOk (P:Program) (w:World) (K:PySem.W.Frag) (mg:Str → Option Value) (base:Heap) (x:Str) (kk n m:Nat) (tab:List (Str × (List Sl → Option (Rs × List Sl)))):Prop where
 ex:∃ p:Addr,mg x = some (.ref p) ∧ ∀ z φ,tab.lookup z = some φ → ∃ (a:Addr) (fd:FuncData) (ps:List Str),KDct K w p z (.ref a) ∧ FnG P w K mg base (CX P w) kk a fd ps (spX K n m (fun _=>false) (.f .n) φ) ∧ ps.length = n ∧ PySem.W.keepIn K (.ref a) = true ∧ Binds K fd ps []
end
structure GX (P:Program) (w:World) (K:PySem.W.Frag) (mg:Str → Option Value) (base:Heap) (x:Str) (k n m:Nat) (mv:Nat → Bool) (fr:FrO) (φ:List Sl → Option (Rs × List Sl)):Prop where
 ex:∃ (a:Addr) (fd:FuncData) (ps:List Str),FnG P w K mg base (CX P w) k a fd ps (spX K n m mv fr φ) ∧ ps.length = n ∧ mg x = some (.ref a) ∧ PySem.W.keepIn K (.ref a) = true ∧ Binds K fd ps []
structure GM (P:Program) (w:World) (K:PySem.W.Frag) (mg:Str → Option Value) (base:Heap) (c mth:Str) (k n m:Nat) (mv:Nat → Bool) (fr:FrO) (φ:List Sl → Option (Rs × List Sl)):Prop where
 ex:∃ (C a:Addr) (fd:FuncData) (ps:List Str),Q0r K c C ∧ Cls K C ∧ Meth K C mth a ∧ FnG P w K mg base (CX P w) k a fd ps (spX K n m mv fr φ) ∧ ps.length = n ∧ Binds K fd ps []
structure GI (P:Program) (w:World) (K:PySem.W.Frag) (mg:Str → Option Value) (base:Heap) (c:Str) (k n m:Nat) (mv:Nat → Bool) (φ:List Sl → Option (Rs × List Sl)):Prop where
 ex:∃ (C a:Addr) (fd:FuncData) (ps:List Str),Q0r K c C ∧ mg c = some (.ref C) ∧ L2.Mk K C a ∧ FnG P w K mg base (CX P w) k a fd ps (spX K n m mv (.f .n) φ) ∧ ps.length = n ∧ Binds K fd ps []
section
variable {X:Cx} {x c mth:Str} {k j n m:Nat} {mv:Nat → Bool} {fr:FrO} {φ:List Sl → Option (Rs × List Sl)}
theorem GX.kn (g:GX X.prog X.w X.K X.mg X.base x k n m mv fr φ) (hR:Room j X.A) (hG:X.A.guards = some []) (gl:Gl X x:=by rfl) (hk:k ≤ j:=by decide) (db:(x == ("__debug__":Str)) = false:=by decide):KnX X x n m mv fr φ:=by
 obtain ⟨a,fd,ps,h1,h2,h3,h4,h5⟩:=g.ex
 exact ⟨⟨k,a,fd,ps,h1,h2,hR.mono hk,h3,h4,h5⟩,hG,gl,db⟩
end
end Z
namespace Z
open PySem PySem.Spec PyProof.Rows L2
mutual
def ndD:D → Bool
 | .list xs=>ndL xs
 | .tuple xs=>ndL xs
 | .dict _=>false
 | _=>true
def ndL:List D → Bool
 | []=>true
 | x :: r=>ndD x && ndL r
end
def ndV:List (D × D) → Bool
 | []=>true
 | x :: r=>ndD x.2 && ndV r
def rmH (F:Hp) (q:Addr):Hp:=fun a=>if a = q then none else F a
theorem Qcb {F:Hp} {q a:Addr} (h:a ≠ q):rmH F q a = F a:=if_neg h
section
variable {K:PySem.W.Frag} {G:Hp} {q:Addr} {oq:Obj} {kq:List (Key × V)}
theorem QiH (hq:G q = some (.frz oq (.dK kq))) {a:Addr} {xs:List V} (h:SqT K G a xs):SqT K (rmH G q) a xs:=by
 rcases h with h | h
 ·rcases h with h | ⟨o,h⟩
  ·exact .inl (.inl (by rw [Qcb]; exact h; intro z; subst z; rw [hq] at h; cases h))
  ·exact .inl (.inr ⟨o,by rw [Qcb]; exact h; intro z; subst z; rw [hq] at h; cases h⟩)
 ·exact .inr h
mutual
theorem Rp.rm (hq:G q = some (.frz oq (.dK kq))):∀ {v:V} {d:D},Rp K G v d → ndD d = true → Rp K (rmH G q) v d
 | _,_,.non,_=>.non
 | _,_,.bl b,_=>.bl b
 | _,_,.int i,_=>.int i
 | _,_,.str x,_=>.str x
 | _,_,.lst h r,n=>.lst (by rw [Qcb]; exact h; intro z; subst z; rw [hq] at h; cases h) (Rps.rm hq r (by unfold ndD at n; exact n))
 | _,_,.tup h r,n=>.tup (QiH hq h) (Rps.rm hq r (by unfold ndD at n; exact n))
 | _,_,.dic h r,n=>by unfold ndD at n; cases n
theorem Rps.rm (hq:G q = some (.frz oq (.dK kq))):∀ {vs:List V} {ds:List D},Rps K G vs ds → ndL ds = true → Rps K (rmH G q) vs ds
 | _,_,.nil,_=>.nil
 | _,_,.cons h r,n=>.cons (Rp.rm hq h (by unfold ndL at n; rw [Q5] at n; exact n.1)) (Rps.rm hq r (by unfold ndL at n; rw [Q5] at n; exact n.2))
theorem RpK.rm (hq:G q = some (.frz oq (.dK kq))):∀ {vs:List (Key × V)} {ds:List (D × D)},RpK K G vs ds → ndV ds = true → RpK K (rmH G q) vs ds
 | _,_,.nil,_=>.nil
 | _,_,.cons h r,n=>.cons (Rp.rm hq h (by unfold ndV at n; rw [Q5] at n; exact n.1)) (RpK.rm hq r (by unfold ndV at n; rw [Q5] at n; exact n.2))
end
end

end Z
namespace Z
open PySem PySem.Spec PyProof.Rows L2

section
variable {X:Cx} {io:Iom} {fr:Fr} {x:Str} {i:Nat} {ea eb v:Expr} {fa fb fv:List Sl → Option (D × List Sl)} {M:List Nat} {p1 p2 tpos pos:Pos}
structure PcS (X:Cx) (o i:Expr) (v:Expr) (tpos:Pos) (line:Nat):Prop where
 sw:swapsWithSole [.Subscript o i tpos] v line X.env = pure false
 st:swappedStores [.Subscript o i tpos] v X.env = pure none
 ea:(assignEach [.Subscript o i tpos] X.env).map (·.2) = [assign (.Subscript o i tpos) X.env]
 as:∀ u,assign (.Subscript o i tpos) X.env u = (do
   let ov ← holding [u] (eval o X.env)
   let iv ← holding [u,ov] (eval i X.env)
   standAt tpos
   holding [u,ov,iv] (setItem ov iv u)
   release [iv,u,ov] [])
end
end Z
namespace Z
open PySem PySem.Spec PyProof.Rows L2

def QkI (sg:List Bool) (n m t:Nat) (vl:List Nat):Bool:=decide (sg.length = n + m) && decide (n + m ≤ t) && ((Jj (n + m)).all fun i=>decide (i < n) || Ka sg i) && vl.all fun i=>decide (n + m ≤ i) && decide (i < t)
theorem Qa5 {sg:List Bool} {n m t:Nat} {vl:List Nat} (h:QkI sg n m t vl = true):XOk sg n m t vl (fun _=>false):=by
 unfold QkI at h
 simp only [Q5,decide_eq_true_eq] at h
 obtain ⟨⟨⟨h1,h2⟩,h3⟩,h4⟩:=h
 refine ⟨h1,h2,fun i a b=>?_,fun i hi=>?_,fun i z=>by cases z⟩
 ·have:=Qe.mp h3 i (List.mem_range.mpr b)
  rw [Jg,decide_eq_true_eq] at this
  exact this.resolve_left (by omega)
 ·have:=Qe.mp h4 i (Jn.mp hi)
  rw [Q5,decide_eq_true_eq,decide_eq_true_eq] at this
  exact this
def hvB (N:List Str) (sc:Scope) (n m:Nat):Bool:=(Jj (n + m)).all fun i=>decide (i < n) || match N[i]? with
 | some y=>(sc.names.lookup y).isNone
 | none=>true
theorem Qdq {N:List Str} {sc:Scope} {n m:Nat} (h:hvB N sc n m = true):∀ (i:Nat) (y:Str),n ≤ i → i < n + m → N[i]? = some y → sc.names.lookup y = none:=fun i y a b e=>by
 have:=Qe.mp h i (List.mem_range.mpr b)
 rw [Jg,decide_eq_true_eq,e] at this
 exact Option.isNone_iff_eq_none.mp (this.resolve_left (by omega))
end Z
namespace Z
open PySem PySem.Spec PyProof.Rows L2 He
def W8 (K:PySem.W.Frag) (x d:String) (st:Stmt):Prop:=∃ (f:Addr) (fd:FuncData),PySem.W.nsIn K mainGlobals x = some (some (.ref f)) ∧ Fun K d d st f fd
theorem Qjh {K:PySem.W.Frag} {x d:String} {st:Stmt} {f:Addr} {od an:Option Addr} {sl:Array (Option Value)} {oc kV dc pm cd ct:Value} (a:PySem.W.nsIn K mainGlobals x = some (some (.ref f))) (l:K.lookup f = some ⟨oc,od,.func (PySem.W.fnOf d d (defArgs st) (defBody st) (defScope st) .none kV dc pm an cd ct),sl⟩) (c:PySem.W.codeIn K cd d = true) (k:PySem.W.keepIn K (.ref f) = true):W8 K x d st:=⟨f,_,a,fun_mk l c k⟩
theorem V8 {K:PySem.W.Frag} {x d:String} {st:Stmt} {h:Heap} {mg:Str → Option Value} {p:Prop} (F:W8 K x d st) (X:K.In h) (G:h.Ns mainGlobals mg) (q:∀ {f:Addr} {fd:FuncData},Fun K d d st f fd → mg x = some (.ref f) → p):p:=let ⟨_,_,a,u⟩:=F; q u (PySem.W.mg_of X G a)
structure Qkg (K:PySem.W.Frag) (c:String) (C:Addr):Prop where
 at_:PySem.W.nsIn K mainGlobals c = some (some (.ref C))
 cl:Cls K C
def Q8i (K:PySem.W.Frag) (u:Value) (d:D):Prop:=(kRp K 40 u).map (·.2) = some d
inductive Qj8 (P:Program) (w:World) (K:PySem.W.Frag) (mg:Str → Option Value) (base:Heap) (p:Addr) (kk n m:Nat):List (Str × (List Sl → Option (Rs × List Sl))) → Prop
 | nil:Qj8 P w K mg base p kk n m []
 | cons {z x:Str} {a:Addr} {φ:List Sl → Option (Rs × List Sl)} {k:Nat} {r:List (Str × (List Sl → Option (Rs × List Sl)))} (g:GX P w K mg base x k n m (fun _=>false) (.f .n) φ) (hk:k ≤ kk) (hm:mg x = some (.ref a)) (hz:PySem.W.nsIn K p z = some (some (.ref a))) (t:Qj8 P w K mg base p kk n m r):Qj8 P w K mg base p kk n m ((z,φ) :: r)
end Z
namespace Z
open PySem PySem.Spec PyProof.Rows L2

end Z
namespace Z
open PySem PySem.Spec PyProof.Rows L2 He
section
variable {fa:List Fa} {fn:List DefD} {ts:List He.Tab} {ex:PySem.W.Frag → Bool} {cs:List (Str × D)} {w:World} {K:PySem.W.Frag}
theorem Qeu {x qn:Str} {st:Stmt} {f:Addr} {fd:FuncData} (F:FunD K x qn (defArgs st) (defBody st) (defScope st) [] [] f fd):∃ (oc:Value) (od an:Option Addr) (kV dc pm cd ct:Value) (sl:Array (Option Value)),K.lookup f = some ⟨oc,od,.func (PySem.W.fnOf x qn (defArgs st) (defBody st) (defScope st) .none kV dc pm an cd ct),sl⟩ ∧ PySem.W.codeIn K cd qn = true ∧ PySem.W.keepIn K (.ref f) = true:=by
 obtain ⟨⟨oc,od,dV,kV,dc,pm,an,cd,ct,sl,e,l,c,d,_⟩,kp⟩:=F
 rcases d with ⟨_,d⟩ | ⟨d,_⟩
 ·subst d; subst e
  exact ⟨oc,od,an,kV,dc,pm,cd,ct,sl,l,c,kp⟩
 ·exact absurd rfl d
theorem Q10.gl (c:Q10 fa fn ts ex cs w K) (i:Nat) {x:Str} (h:fa[i]? = some (.glo x):=by rfl):PySem.W.nsIn K mainGlobals x = some (some (.ref (ga K x))):=eqO_ok (c.t.d.fact i h)
theorem Q10.fr (c:Q10 fa fn ts ex cs w K) (i:Nat) {x:Str} (h:fa[i]? = some (.free x):=by rfl):PySem.W.nsIn K mainGlobals x = some none:=eqO_ok (c.t.d.fact i h)
theorem Q10.cl (c:Q10 fa fn ts ex cs w K) (i j:Nat) {x:String} (h:fa[i]? = some (.glo x):=by rfl) (h2:fa[j]? = some (.cls x):=by rfl):Qkg K x (ga K x):=⟨c.gl i h,cls_ok (c.t.d.fact j h2)⟩
theorem Q10.fd (c:Q10 fa fn ts ex cs w K) (i j:Nat) {x d:String} {st:Stmt} (h:fa[i]? = some (.glo x):=by rfl) (h2:fn[j]? = some (dt x d st):=by rfl):W8 K x d st:=by
 obtain ⟨fd,F⟩:=c.t.d.def_ j h2
 obtain ⟨oc,od,an,kV,dc,pm,cd,ct,sl,l,k,kp⟩:=Qeu F
 exact Qjh (c.gl i h) l k kp
theorem Q10.law (c:Q10 fa fn ts ex cs w K) (j:Nat) {x d:String} {st:Stmt} (h2:fn[j]? = some (dt x d st):=by rfl):∃ (oc:Value) (od an:Option Addr) (kV dc pm cd ct:Value) (sl:Array (Option Value)),K.lookup (ga K x) = some ⟨oc,od,.func (PySem.W.fnOf d d (defArgs st) (defBody st) (defScope st) .none kV dc pm an cd ct),sl⟩ ∧ PySem.W.codeIn K cd d = true ∧ PySem.W.keepIn K (.ref (ga K x)) = true:=by
 obtain ⟨fd,F⟩:=c.t.d.def_ j h2
 exact Qeu F
theorem Q10.con (c:Q10 fa fn ts ex cs w K) (i:Nat) {x:Str} {d:D} (h:cs[i]? = some (x,d):=by rfl):∃ u,PySem.W.nsIn K mainGlobals x = some (some u) ∧ Q8i K u d:=by
 have e:=c.cs
 have e2:(cs.map fun c=>QfB K c.1)[i]? = (cs.map fun c=>some c.2)[i]?:=by rw [e]
 rw [Qp,Qp,h] at e2
 have e3:QfB K x = some d:=Ja.inj e2
 unfold QfB at e3
 split at e3
 ·rename_i u q
  exact ⟨u,q,e3⟩
 ·cases e3
theorem Q10.tb (c:Q10 fa fn ts ex cs w K) (i:Nat) {t:Str} {ks:List Str} (h:ts[i]? = some (fun K=>ga K t,ks):=by rfl):dicW K (ga K t) = some (keysIn w.params ks):=by
 have e:ts.map (fun t=>dicW K (t.1 K)) = ts.map fun t=>some (keysIn w.params t.2):=congrArg (fun z:AlT=>z.2) c.t
 have e2:(ts.map fun t=>dicW K (t.1 K))[i]? = (ts.map fun t=>some (keysIn w.params t.2))[i]?:=by rw [e]
 rw [Qp,Qp,h] at e2
 exact Ja.inj e2
end
theorem zwalkE {l:PySem.W.OpenLaw} {n k:Nat} {q:Program} {loose:List Str} {XP:(Str → Option Value) → Heap → Prop} {YP:World → Heap → Prop} {d:DefRec} {φ:List Sl → Option (D × List Sl)} {x:Str}
  (hn:l.most = some n) (hn2:n ≤ sizeLine) (hdf:d.params.defaults = []) (hr:Room k callerA)
  (Fn:∀ (w:World) (mg:Str → Option Value) (fa:Addr) (h:Heap),YP w h → h.Ns mainGlobals mg → mg d.name = some (.ref fa) → ∃ K:PySem.W.Frag,K.In h ∧
   ∃ fd:FuncData,(∀ (s:Shared) (u:Value),BindsTo s fd ⟨[u],[]⟩ [(x,u)]) ∧ ∀ base:Heap,K.In base → base.Ns mainGlobals mg → FnG l.prog w K mg base CX0 k fa fd [x] (spF K 1 .n φ))
  (hφ:∀ ns:List Int,ns.length ≤ n → ∃ outs,φ [.scr ns] = some (.bool true,outs)) :
  PySem.W.WalkO q loose XP YP l.row.toRowW d [] (fun f vs=>PySem.call f vs):=by
 refine Att.attach_call hn hdf fun w s0 s1 mg mb fa o pm cd doc a vs ns G Y ho hd hcd hmg hobj hints hlen hg=>?_
 obtain ⟨K,KX,fd,hb,hF⟩:=Fn w mg fa _ Y G.T.g hmg
 exact Qkf KX G.T.g G.T.b G.T.builtins G.T.nolimit hg hobj hints (J3 hlen hn2) hr hF hb (hφ ns hlen)
end Z
namespace Z
open PySem PySem.Spec PyProof.Rows L2




end Z
namespace Z
open PySem PySem.Spec PyProof.Rows L2


def Qkm (ds es:List (D × D)):List (D × D):=es.foldl (fun a p=>match Kk p.1 with | some k=>QdE a k p.2 | none=>a) ds
theorem RpK.upd {K:PySem.W.Frag} {G:Hp}:∀ {more:List (Key × V)} {es:List (D × D)} {kvs:List (Key × V)} {ds:List (D × D)},RpK K G more es → RpK K G kvs ds → RpK K G (mergeK kvs more) (Qkm ds es)
 | _,_,_,_,.nil,h=>h
 | _,_,kvs,ds,.cons (k:=k) h r',h0=>by
  show RpK K G (mergeK (putK kvs k _) _) _
  unfold Qkm
  rw [List.foldl_cons]
  simp only [Q0x]
  exact RpK.upd r' (h0.put k h)
end Z
namespace Z
open PySem PySem.Spec PyProof.Rows L2
theorem ObR.false {H:Hp} {v:Option V} {σ:L2.St} {fs:List (Str × Nat)} {io:Nat → Bool} (h:ObR (fun _=>false) H v σ fs):ObR io H v σ fs:=⟨fun q hq=>(by cases h.1 q hq),h.2⟩
end Z
namespace Z
open PySem PySem.Spec PyProof.Rows L2
end Z
namespace Z
open PySem PySem.Spec PyProof.Rows L2 He

end Z
namespace Z
open PySem PySem.Spec PyProof.Rows L2


end Z
namespace Z
open PySem PySem.Spec PyProof.Rows L2
def ev7 {α:Type} (xs:List α) (a b:Nat):List α:=(Jj ((b - a + 6) / 7)).filterMap fun m=>xs[a + 7 * m]?
def hiN:Option Int → Option Nat
 | some (.ofNat n)=>some n
 | _=>none

section
variable {X:Cx}
def r7 (K:PySem.W.Frag):V → Option Int → Option Int → Hp → VK → Prop:=fun x lo hi H Q =>
 ∃ a xs k j,x = .ref a ∧ SqT K H a xs ∧ loN lo = some k ∧ hiN hi = some j ∧ ∀ p,H p = none → Q (.ref p) (upd H p (.tup (ev7 xs (min k xs.length) (min j xs.length))))
def t7 (K:PySem.W.Frag) (te:TE) (tl th:TO):TE:=fun σ H Q=>te σ H fun x H1=>tl σ H1 fun l H2=>th σ H2 fun u H3=>r7 K x l u H3 Q
end
end Z
namespace Z
open PySem PySem.Spec PyProof.Rows L2

end Z
namespace Z
open PySem PySem.Spec PyProof.Rows L2
section
variable {K:PySem.W.Frag} {F F' H H':Hp}
theorem DLs.none (k:Key):∀ {kvs:List (Key × V)} {ds:List (D × D)} {A:List Addr},DLs K F H kvs ds A → k ∉ kvs.map (·.1) → ∀ (v:V) (d:D),(kvs.map fun kv=>if kv.1 = k then (kv.1,v) else kv) = kvs ∧ (ds.map fun p=>if Kk p.1 = some k then (p.1,d) else p) = ds
 | _,_,_,.nil,_,_,_=>⟨rfl,rfl⟩
 | _,_,_,.cons (k:=k0) h r t,n,v,d=>by
  rw [Qq,Qg,not_or] at n
  have ne:¬ k0 = k:=fun z=>n.1 z.symm
  obtain ⟨h1,h2⟩:=t.none k n.2 v d
  rw [Qq,Qq,if_neg ne,h1,Q0x,if_neg fun z=>ne (Ja.inj z),h2]
  exact ⟨rfl,rfl⟩
end


end Z
namespace Z
open PySem PySem.Spec PyProof.Rows L2



end Z
namespace Z
open PySem PySem.Spec PyProof.Rows L2






end Z
namespace Z
open PySem PySem.Spec PyProof.Rows L2


end Z
namespace Z
open PySem PySem.Spec PyProof.Rows L2
end Z
namespace Z
open PySem PySem.Spec PyProof.Rows L2
structure Zap (z TI TO i1 i2:Addr):Prop where
 a:TI ≠ z
 b:TO ≠ z
 c:TI ≠ TO
 d:TI ≠ i1
 e:TI ≠ i2
 f:z ≠ i1
 g:z ≠ i2
 h:TO ≠ i1
 i:TO ≠ i2
 j:i1 ≠ i2

end Z
namespace Z
open PySem PySem.Spec PyProof.Rows L2 He




end Z
namespace Z
open PySem PySem.Spec PyProof.Rows L2 He






end Z
namespace Z
open PySem PySem.Spec PyProof.Rows L2
end Z
namespace Z
open PySem PySem.Spec PyProof.Rows L2
end Z
namespace Z
open PySem PySem.Spec PyProof.Rows L2
theorem QaH {K:PySem.W.Frag} {G:Hp}:∀ ys:List Str,Rps K G (ys.map V.str) (ys.map Q3)
 | []=>.nil
 | _ :: r=>.cons (.str _) (QaH r)
def Qh5:D → Option Str
 | .str a=>some a
 | _=>none
theorem Qcn {K:PySem.W.Frag} {G:Hp}:∀ {xs:List V} {ds:List D} {ys:List Str},Rps K G xs ds → ds.mapM Qh5 = some ys → xs = ys.map V.str
 | _,_,ys,.nil,h=>by
  simp only [List.mapM_nil] at h
  cases h
  rfl
 | _,_,ys,.cons (d:=d) r rs,h=>by
  rw [List.mapM_cons] at h
  cases r with
  | str x =>
   obtain ⟨y,hy,h2⟩:=Qt.mp h
   obtain ⟨zs,hz,h3⟩:=Qt.mp h2
   cases hy
   cases h3
   rw [Qcn rs hz]
   rfl
  | _=>cases h
def Q9a:D → D → Option D
 | .str a,.str b=>if (b.length == 0) = false ∧ a.length + 2 ≤ sizeLine then some (.list ((Txt.split a b).map Q3)) else none
 | _,_=>none
def Q1z:D → D → Option D
 | .str a,.list ds=>(ds.mapM Qh5).bind fun ys=>if (ys.map (·.length)).sum + ys.length * a.length ≤ 16777216 then some (.str (Txt.join a ys)) else none
 | _,_=>none
section
variable {X:Cx} {o e:Expr} {fo fe:List Sl → Option (D × List Sl)} {R M R2 M2:List Nat} {apos pos:Pos}
theorem Q2j (ho:EV X o fo R M) (he:EV X e fe R2 M2) (hs:starEach [e] X.env = [(false,eval e X.env)]:=by rfl) (h1:attributeBase o "split" X.env (eval o X.env) = eval o X.env:=by rfl) (h2:(apos.endLine == pos.line) = true:=by rfl) :
  NV X (.Call (.Attribute o "split" apos) [e] [] pos) (f2 Q9a fo fe) (M ++ M2):=by
 obtain ⟨t,p,q⟩:=ho
 obtain ⟨tl,pl,ql⟩:=he
 refine ⟨_,pe_split p pl hs h1 h2,fun Y F H δ σ A S z δ' e0 Q k=>?_⟩
 obtain ⟨d,δ1,l,e1,e2,e4⟩:=Q6U e0
 refine q Y F H δ σ A S d δ1 e1 _ fun x F1 H1 st1 S1 r1=>?_
 unfold Q9a at e4
 split at e4
 ·split at e4
  ·cases e4
   rename_i hc
   have r1':=r1.str
   subst r1'
   refine ⟨⟨_,rfl⟩,?_⟩
   refine ql Y F1 H1 δ1 σ A S1 _ _ e2 _ fun y F2 H2 st2 S2 r2=>?_
   have r2':=r2.str
   subst r2'
   have st:=st1.trans S1 st2
   exact ⟨_,_,rfl,rfl,hc.1,hc.2,fun p hp=>k p F2 _ (Vj S2 st (Stp.laidO hp)) (S2.laidO hp) (Q6F st S2 hp) (S2.sub.free hp) ⟨_,upd_same,QaH _⟩⟩
  ·cases e4
 ·cases e4
theorem Q1Y (ho:EV X o fo R M) (he:EV X e fe R2 M2) (hs:starEach [e] X.env = [(false,eval e X.env)]:=by rfl) (h1:attributeBase o "join" X.env (eval o X.env) = eval o X.env:=by rfl) (h2:(apos.endLine == pos.line) = true:=by rfl) :
  EV X (.Call (.Attribute o "join" apos) [e] [] pos) (f2 Q1z fo fe) [] (M ++ M2):=by
 obtain ⟨t,p,q⟩:=ho
 obtain ⟨tl,pl,ql⟩:=he
 refine ⟨_,pe_join p pl hs h1 h2,fun Y F H δ σ A S z δ' e0 Q k=>?_⟩
 obtain ⟨d,δ1,l,e1,e2,e4⟩:=Q6U e0
 refine q Y F H δ σ A S d δ1 e1 _ fun x F1 H1 st1 S1 r1=>?_
 unfold Q1z at e4
 split at e4
 ·obtain ⟨ys,e5,e6⟩:=Qt.mp e4
  split at e6
  ·cases e6
   rename_i hc
   have r1':=r1.str
   subst r1'
   refine ⟨⟨_,rfl⟩,?_⟩
   refine ql Y F1 H1 δ1 σ A S1 _ _ e2 _ fun y F2 H2 st2 S2 r2=>?_
   obtain ⟨p,xs,rfl,h3,r⟩:=r2.list S2
   have ex:=Qcn r e5
   subst ex
   exact ⟨_,p,ys,rfl,rfl,.inl (SqL.of h3),hc,k _ F2 H2 (st1.trans S1 st2) S2 (.inl (.str _))⟩
  ·cases e6
 ·cases e4
end
def QaI:D → Option D
 | .str a=>if a.length ≤ 640 then (PySem.intText? a).map Q0 else none
 | _=>none
def QhQ:List V → Hp → VK → Prop:=fun xs H Q=>∃ a n,xs = [.str a] ∧ PySem.intText? a = some n ∧ a.length ≤ 640 ∧ Q (.int n) H
section
variable {X:Cx}
theorem QcD:CallR X (.type "int") QhQ:=call_int_str
theorem Qcp:Q4i X QhQ (g1 QaI):=by
 intro Y F H δ σ A R xs ds z S r hg Q k
 obtain ⟨d,rfl,hg'⟩:=Q0g hg
 obtain ⟨v,rfl,rv⟩:=r.one
 unfold QaI at hg'
 split at hg'
 ·split at hg'
  ·rename_i hl
   obtain ⟨n,hn,rfl⟩:=Ql.mp hg'
   have r1:=rv.str
   subst r1
   exact ⟨_,n,rfl,hn,hl,k _ F H Stp.refl S (.int n)⟩
  ·cases hg'
 ·cases hg'
end
end Z
namespace Z
open PySem PySem.Spec PyProof.Rows L2
end Z
namespace Z
open PySem PySem.Spec PyProof.Rows L2
end Z
namespace Z
open PySem PySem.Spec PyProof.Rows L2
def XL (X:Cx) (L:Addr) (W:WX) (u:Value) (t:Shared):Prop :=
 ∃ (a:Addr) (G:Heap) (r:Shared) (pins:List (Addr × Obj)) (τ:L2.St) (H:Hp) (c:Value) (d:Option Addr),
  u = .ref a ∧ L2.Inv X pins τ H r ∧ (∀ b o,r.heap.get? b = some o → b ∉ frs X.stack → G.get? b = some o) ∧ r.heap.UpToSlots t.heap ∧
   Sky G X.stack a (Zc c d) L t.heap ∧ H a = none ∧ t.os = r.os ∧ AllBare t.gens ∧ W c d τ H
def TkL (X:Cx) (L:Addr) (W:WX):Prop:=∀ u t,XL X L W u t → X.xe u t
theorem QjN {X:Cx} {W:WX} (tk:Takes X W):TkL X X.env.locals W:=fun u t h=>tk u t h
section
variable {X:Cx} {pins:List (Addr × Obj)} {σ:L2.St} {H:Hp} {s t:Shared} {W:WX} {E:XK} {L:Addr}
theorem Qgn (I:L2.Inv X pins σ H s) (hW:∀ c d H',E c d H' → W c d σ H') {u:Value} (c:CX X.prog X.w X.stack H s E u t):XL X L W u t:=by
 have x:=XE.of_call I hW c
 obtain ⟨a,B,_,_,_,rfl,fl,_⟩:=c
 obtain ⟨a',G,r,ps,τ,K,cl,d,e,J,nb,up,sky,na,os,ag,w⟩:=x
 cases e
 refine ⟨_,G,r,ps,τ,K,cl,d,rfl,J,nb,up,?_,na,os,ag,w⟩
 rcases sky with f | f | f
 ·exact .inl f
 ·exact .inr (.inl f)
 ·exfalso
  obtain ⟨_,_,_,o1,v1,T1,p1,t1,a1,_,a3,a4,_,_,a7,a8,a9⟩:=fl
  obtain ⟨_,_,_,o2,v2,T2,p2,t2,b1,_,b3,b4,_,_,b7,b8,b9⟩:=f
  rw [a1] at b1; cases b1
  rw [a3] at b3; cases b3
  rw [a4] at b4; cases b4
  rw [a7] at b7; cases b7
  rw [a8] at b8; cases b8
  rw [a9] at b9
  simp [rawInt] at b9
theorem QjX (tk:TkL X L W) (σ:L2.St):PassesAt (CX X.prog X.w) X σ (WE W σ):=fun pins H s e t I c=>tk e t (Qgn I (fun _ _ _ h=>h) c)
end
section
variable {M:Model} {A:Around} {E:Value → Shared → Prop} {s:Shared} {G:Heap} {e0 env:Env} {o0 l:List Env} {a L:Addr} {Z:Obj → Prop}
theorem Qj7 {Q:Unit → Shared → Prop} (hZ:HandSPX.Steady Z) (hfr:A.frames = some (e0 :: o0)) (hf:env.frame = some L) (h0:e0.frame = some L) (x:Sky G (e0 :: o0) a Z L s.heap)
  (hQ:∀ h',HandSPX.HeldZ G (e0 :: o0) a Z L h' → s.heap.UpToSlots h' → Q () { s with heap:=h' }):wpAny M A (noteFrame (.ref a) env) Q E s:=by
 have e:noteFrame (.ref a) env = noteFrame (.ref a) e0:=by
  unfold noteFrame PySem.frameOf
  rw [hf,h0]
 rw [e]
 rcases x with ⟨k1,k2,k3,oe,vs,k4,k5,k6,k7⟩ | f | f
 ·exact HandSPX.look_newZ hZ hfr k3 h0 k4 k1 k2 k6 k7 k5 hQ
 ·exact HandSPX.looks_onZ hZ hfr h0 f hQ
 ·exact HandSPX.againZ h0 f.2.2.2 (hQ s.heap f (Heap.UpToSlots.refl _))
theorem QfA {α:Type} {what:String} {Q:α → Shared → Prop} (x:HandSPX.HeldZ G l a Z L s.heap) (hf:env.frame = some L)
  (hQ:∀ h',HandSPX.HeldZ G l a Z L h' → s.heap.UpToSlots h' → E (.ref a) { s with heap:=h' }):wpAny M A (PySem.passOn what (.ref a) env:Sem α) Q E s:=by
 obtain ⟨_,_,_,oe,vs,T,_,_,k1,_,k3,k4,_⟩:=id x
 unfold PySem.passOn
 refine wpAny_bind (wpAny_field k1 k3 k4 ?_)
 rw [if_neg (show ¬ ((Value.ref T == Value.none) = true) from by simp),hf]
 refine wpAny_bind ?_
 exact HandSPX.setFlight_onZ x fun h' k k'=>wpAny_throw (hQ h' k k')
end
theorem QhV {h h' G G':Heap}:∀ {l:List Env},h.FunFrames G l → (∀ b ∈ frs l,h'.get? b = h.get? b ∧ G'.get? b = none) → h'.FunFrames G' l
 | [],_,_=>trivial
 | env :: l,x,k=>by
  obtain ⟨hk,⟨F,o,hf,_,ho,hd⟩,hr⟩:=x
  have m:F ∈ frs (env :: l):=List.mem_filterMap.mpr ⟨env,Q7,hf⟩
  refine ⟨hk,⟨F,o,hf,(k F m).2,(k F m).1.trans ho,hd⟩,QhV hr fun b hb=>k b ?_⟩
  obtain ⟨e,he,q⟩:=List.mem_filterMap.mp hb
  exact List.mem_filterMap.mpr ⟨e,Q6 _ he,q⟩
def cpF (M:Model) (A:Around) (E:Value → Shared → Prop) (use:Option (Value → Sem Unit)) (Q:Value → Shared → Prop) (acc:Value) (C:Addr) (f:Option Addr) (r:Result) (t:Shared):Prop:=match r with
 | .ok k=>compPost M A E use Q acc C (.ok k) t
 | .error x=>∃ m,t.heap.Ns C m ∧ ∀ h',Heap.SameBut C t.heap h' → ∀ ce:Env,ce.locals = C → ce.frame = f → wpAny M A (PySem.passOn "comprehension.variables-let-go" x ce:Sem Value) (fun _ _=>False) E { t with heap:=h' }
abbrev BkX (X:Cx) (scope:Scope) (s:Shared) (H:Hp) (C:Addr) (cl:List (Str × Addr)) (fp:List Addr) (pn:List (Addr × Obj)) (xe:Value → Shared → Prop):Cx:=(X.blk s H scope (compEnvC scope cl C X.env) fp).tr pn xe
theorem Qgf {X:Cx} {pins pn:List (Addr × Obj)} {σ:L2.St} {H3:Hp} {s3:Shared} {scope:Scope} {C L:Addr} {cl:List (Str × Addr)} {fp:List Addr} {xe:Value → Shared → Prop} {W:WX} {use:Option (Value → Sem Unit)} {Qf:Value → Shared → Prop} {D:Value} {e0:Env} {o0:List Env}
  (I3:L2.Inv X pins σ H3 s3) (hC:s3.heap.objs.size ≤ C) (fk:∀ b ∈ fp,(b ∈ X.ex ∨ X.s_0.heap.objs.size ≤ b) ∧ b ≠ X.env.locals ∧ (∀ x c,X.env.cells.lookup x = some c → c ≠ b) ∧ ∀ p ∈ X.pn ++ pins,p.1 ≠ b)
  (tk:TkL X L W) (hs:X.stack = e0 :: o0) (h0:e0.frame = some L) (hf:X.env.frame = some L) {u:Value} {t:Shared} (x:XL (BkX X scope s3 H3 C cl fp pn xe) L (fun c d _ H=>W c d σ H) u t) :
  notedBy (model X.prog X.w) X.A (compEnvC scope cl C X.env) (fun e t'=>cpF (model X.prog X.w) X.A X.xe use Qf D C (some L) (.error e) t') u t:=by
 obtain ⟨a,G,r,ps,τ,H,c,d,rfl,J,nb,up,sky,na,os,ag,w⟩:=x
 have J':L2.Inv X pins σ H r:=I3.call' (ch:=fp) J.os J.base J.hok J.bare fk
 have nC:H C = none:=J.free
 obtain ⟨m,hn,_⟩:=J.loc
 have fC:FpOk X pins H C:=I3.fpOk hC nC
 have nF:C ∉ frs X.stack:=fun z=>by
  rcases Qg.mp (I3.stkSub C z) with q | q
  ·exact fC.2.1 q
  ·exact fC.2.2.1 q
 have hfr:X.A.frames = some (e0 :: o0):=by rw [I3.ok.frames,hs]
 have nF':C ∉ frs (e0 :: o0):=by rw [← hs]; exact nF
 have nb':∀ b o,r.heap.get? b = some o → b ∉ frs (e0 :: o0) → G.get? b = some o:=by rw [← hs]; exact nb
 have sky':Sky G (e0 :: o0) a (Zc c d) L t.heap:=by rw [← hs]; exact sky
 refine Qj7 Zc.steady hfr (show (compEnvC scope cl C X.env).frame = some L from hf) h0 sky' fun h1 hh up1=>?_
 obtain ⟨o,es,ep,ho,hd,hr⟩:=hn
 have ho:r.heap.get? C = some o:=ho
 have h1C:h1.get? C = some o:=hh.1 C o (nb' C o ho nF')
 refine ⟨m,⟨o,es,ep,h1C,hd,hr⟩,fun h2 sb ce hl hcf=>?_⟩
 have sb2:∀ b,b ≠ C → h2.get? b = h1.get? b:=fun b hb=>sb.2 b hb
 have gd:∀ {b o},(PySem.W.hideAll G [C]).get? b = some o → b ≠ C ∧ G.get? b = some o:=fun {b o} e=>by
  refine ⟨fun z=>?_,PySem.W.of_hideAll _ e⟩
  rw [z,PySem.W.hideAll_none [C] (by simp)] at e
  cases e
 have gn:∀ {b},G.get? b = none → (PySem.W.hideAll G [C]).get? b = none:=fun {b} e=>by
  cases q:(PySem.W.hideAll G [C]).get? b with
  | none=>rfl
  | some v =>
   have:=(gd q).2
   rw [e] at this
   cases this
 have held:HandSPX.HeldZ (PySem.W.hideAll G [C]) (e0 :: o0) a (Zc c d) L h2:=by
  obtain ⟨k1,k2,k3,oe,vs,T,oT,ts,t1,t2,t3,t4,t5,t6,t7,t8,t9⟩:=hh
  have aC:a ≠ C:=fun z=>by
   rw [z,h1C] at t1
   cases t1
   rw [hd] at t3
   cases t3
  have TC:T ≠ C:=fun z=>by
   rw [z,h1C] at t7
   cases t7
   rw [hd] at t8
   cases t8
  refine ⟨fun b v e=>(sb2 b (gd e).1).trans (k1 b v (gd e).2),gn k2,QhV k3 fun b hb=>⟨sb2 b fun z=>nF' (z ▸ hb),gn (k3.mem hb).1⟩,oe,vs,T,oT,ts,(sb2 a aC).trans t1,t2,t3,t4,gn t5,t6,(sb2 T TC).trans t7,t8,t9⟩
 refine QfA held hcf fun h3 hh3 up3=>?_
 obtain ⟨f0,f1,f2,f3,f4,f5⟩:=fC
 refine tk _ _ ⟨a,PySem.W.hideAll G [C],{ r with heap:=PySem.W.hideAll r.heap [C] },pins,σ,H,c,d,rfl,J'.turned (t':=r.toks) (fun b v hb e=>PySem.W.hideAll_get _ e (by simpa using hb)) f0 f1 f3 f4 f5,fun b v e hb=>?_,fun b v e nv=>?_,.inr (.inr (by rw [hs]; exact hh3)),na,os,ag,w⟩
 ·have e':(PySem.W.hideAll r.heap [C]).get? b = some v:=e
  have bC:b ≠ C:=fun z=>by
   rw [z,PySem.W.hideAll_none [C] (by simp)] at e'
   cases e'
  exact PySem.W.hideAll_get _ (nb b v (PySem.W.of_hideAll _ e') hb) (by simpa using bC)
 ·have e':(PySem.W.hideAll r.heap [C]).get? b = some v:=e
  have bC:b ≠ C:=fun z=>by
   rw [z,PySem.W.hideAll_none [C] (by simp)] at e'
   cases e'
  obtain ⟨s1,q1⟩:=up b v (PySem.W.of_hideAll _ e') nv
  obtain ⟨s2,q2⟩:=up1 b _ q1 nv
  obtain ⟨s3,q3⟩:=up3 b _ ((sb2 b bC).trans q2) nv
  exact ⟨s3,q3⟩
section
variable {M:Model} {A:Around} {E:Value → Shared → Prop} {s:Shared} {env:Env}
theorem QdP {e:Expr} {scope:Scope} {pos:Pos} {nw fst:Sem Value} {g:Comprehension} {gs:List Comprehension} {cl:List (Str × Addr)} {use:Option (Value → Sem Unit)} {Q:Value → Shared → Prop}
  (hcl:clausesOf e = g :: gs) (hs:∀ x,foldedSetIterable g.iter env x = pure x) (hclos:closureFor scope env = pure cl) (hkind:scope.kind = .function) (hnames:∀ x ∈ scope.names,x.2 = .local → scope.names.lookup x.1 = some .local)
  (h:wpAny M A fst (fun x s₁=>wpAny M A (pyIter x) (fun it s₂=>wpAny M A nw (fun acc s₃ =>
   wpAny M A (newFunctionEnv scope env.globals cl [] env.qual none .none (some env)) (fun ce s₄ =>
    codeAny M A (.compStart e 0 it acc { ce with scope:=relabel scope env }) (cpF M A E use Q acc ce.locals ce.frame) s₄) E s₃) E s₂) E s₁) E s):wpAny M A (comprehension e scope env pos nw false fst use) Q E s:=by
 unfold comprehension
 rw [hclos,hcl]
 have k:∀ {α:Type} {P:α → Shared → Prop} {m:Sem α} {t:Shared} {P':α → Shared → Prop},wpAny M A m P E t → (∀ a t,P a t → P' a t) → wpAny M A m P' E t:=fun a b=>wpAny_mono a b fun _ _ z=>z
 refine wpAny_bind (k h fun x s₁ h₁=>?_)
 refine wpAny_bind (wpAny_standAt (wpAny_bind (wpAny_of_eq (hs x) (wpAny_bind (wpAny_holding (k h₁ fun it s₂ h₂=>?_))))))
 refine wpAny_standIf (wpAny_bind (k h₂ fun acc s₃ h₃=>?_))
 refine wpAny_bind (wpAny_pure (wpAny_bind (k h₃ fun ce s₄ h₄=>?_)))
 dsimp only
 have lo:∀ x:Str × NameKind,x ∈ scope.names → x.2 = .local → Env.kindOf { ce with scope:=relabel scope env } x.1 = some .local:=fun x hx hl=>lookup_relabel_local (hnames x hx hl)
 have own1:∀ x ∈ (scope.names.filter fun x=>(x.2 == .local || x.2 == .cell) && x.1 != (".0":Str)).reverse,x.2 = .local → Env.kindOf { ce with scope:=relabel scope env } x.1 = some .local :=
  fun x hx=>lo x (List.mem_filter.mp (List.mem_reverse.mp hx)).1
 refine wpAny_holding (wpAny_bind (wpAny_attempt (wpAny_holding (wpAny_run (codeAny_mono h₄ fun r t hr=>?_)))))
 cases r with
 | ok f =>
  cases use with
  | none =>
   obtain ⟨m,hn,q⟩:=hr
   exact wpAny_bind (wpAny_holding (wpAny_comp_letGo (cenv:={ ce with scope:=relabel scope env }) hkind _ t m own1 hn fun h' m' _ hb=>wpAny_pure (q h' hb)))
  | some u =>
   refine wpAny_bind (wpAny_rule (wpAny_bind (wpAny_holding (k hr fun _ t' hr'=>?_))))
   obtain ⟨m,hn,q⟩:=hr'
   refine wpAny_bind (wpAny_comp_letGo (cenv:={ ce with scope:=relabel scope env }) hkind _ t' m (fun x hx=>?_) hn fun h' m' _ hb=>wpAny_pure (q h' hb))
   exact own1 x ((Qc.mp hx).elim List.mem_of_mem_drop List.mem_of_mem_take)
 | error x =>
  have hr':∃ m,t.heap.Ns ce.locals m ∧ ∀ h',Heap.SameBut ce.locals t.heap h' → ∀ c:Env,c.locals = ce.locals → c.frame = ce.frame → wpAny M A (PySem.passOn "comprehension.variables-let-go" x c:Sem Value) (fun _ _=>False) E { t with heap:=h' }:=hr
  obtain ⟨m,hn,q⟩:=hr'
  exact wpAny_bind (wpAny_holding (wpAny_comp_letGo (cenv:={ ce with scope:=relabel scope env }) hkind _ t m own1 hn fun h' m' _ hb=>wpAny_mono (q h' hb _ rfl rfl) (fun _ _ z=>z.elim) fun _ _ z=>z))
end
theorem Qjm {X:Cx} {pins pn:List (Addr × Obj)} {σ:L2.St} {H:Hp} {s:Shared} (I:L2.Inv X pins σ H s) (xe:Value → Shared → Prop)
  (hp:∀ p ∈ pn,s.heap.get? p.1 = some p.2 ∧ H p.1 = none ∧ p.1 ≠ X.env.locals ∧ p.1 ∉ X.fs ∧ ∀ v,p.2.data ≠ .cell v):L2.Inv (X.tr pn xe) [] σ H s :=
 ⟨I.ok.toTry _ _,I.os,I.bare,I.base,I.loc,I.cell,I.free,I.freeC,fun p h=>hp p (by rw [J4] at h; exact h),I.hok,I.len⟩
theorem Qad {X:Cx} {pins:List (Addr × Obj)} {s:Shared} {σ:L2.St} {H:Hp} {Q:VK} {elt tg iter:Expr} {ifs:List Expr} {scope:Scope} {own:List (Str × Nat)} {pos pos':Pos} {wi:TI} {g:TG} {tt:TT} {te:WX → TE} {use:Option (Value → Sem Unit)} {Qf:Value → Shared → Prop} {L:Addr} {W:WX} {e0:Env} {o0:List Env}
  (hc:X.calm = true) (hN:X.N.Nodup) (I:L2.Inv X pins σ H s) (hi:PI X tg iter wi) (ok:BlkOk X.N X.env.scope scope own) (tk:TkL X L W) (hst:X.stack = e0 :: o0) (h0:e0.frame = some L) (hf:X.env.frame = some L)
  (hg:∀ s H C cl fp pn xe,PG (BkX X scope s H C cl fp pn xe) tg g) (ht:∀ s H C cl fp pn xe,PTs (BkX X scope s H C cl fp pn xe) ifs tt)
  (he:∀ W' s H C cl fp pn xe,TkL (BkX X scope s H C cl fp pn xe) L W' → PE (BkX X scope s H C cl fp pn xe) elt (te W')) (hs:∀ x,foldedSetIterable iter X.env x = pure x)
  (h:tLc wi g tt (te fun c d _ H=>W c d σ H) (own.map (·.2)) σ H Q)
  (hRR:∀ D C t m H',L2.Inv X pins σ H' t → Q (.ref D) H' → t.heap.Ns C m → FpOk X pins H' C → compPost (model X.prog X.w) X.A X.xe use Qf (.ref D) C (.ok .next) t) :
  wpAny (model X.prog X.w) X.A (comprehension (.ListComp elt [⟨tg,iter,ifs,0⟩] scope pos) scope X.env pos' (newList []) false (eval iter X.env) use) Qf X.xe s:=by
 have fr:∀ y ∈ scope.names,y.2 = .free → ∃ c,X.env.cells.lookup y.1 = some c:=fun y hy e=>I.ok.has _ ((ok.free y hy e).imp id id)
 refine QdP (use:=use) rfl hs (closure_ok fr) ok.kind (fun y hy e=>by rw [ok.uniq y hy,e]) (thn (hi.run pins s σ H _ I h) fun xv s1 hx=>thn hx fun itv s2 h2=>?_)
 obtain ⟨it,fp,tn,J,H2,rfl,I2,T,st2,f2,q⟩:=h2
 refine wpAny_newObj_type (newEnv_comp ?_) (by show 0 ≤ sizeLine; decide)
 generalize hD:s2.heap.objs.size = D
 have nD:H2 D = none:=I2.hok.fresh (Nat.le_of_eq hD)
 obtain ⟨W_,⟨m0,w0⟩,turn⟩:=q D nD
 generalize hs3:({ s2 with heap:=s2.heap.push { cls:=.type "list",data:=.seq ([]:List Value).toArray } }:Shared) = s3
 have I3:L2.Inv X pins σ (upd H2 D (.lst [])) s3:=by
  rw [← hs3]
  refine I2.laid (t':=s2.toks) (fun b o e=>Heap.get?_push_of_some _ e) (Nat.le_of_eq hD) ⟨Jo _,[],0,.nil,?_⟩
  rw [← hD]
  exact Heap.get?_push_size _ rfl
 have e3:s3.heap = s2.heap.push { cls:=.type "list",data:=.seq ([]:List Value).toArray }:=by rw [← hs3]
 have f3:∀ b ∈ fp,FpOk X pins (upd H2 D (.lst [])) b ∧ b < s3.heap.objs.size:=fun b hb=>by
  obtain ⟨o,e,_⟩:=T.obj _ _ st2 b hb
  have lt:=Heap.lt_size e
  refine ⟨⟨?_,(f2 b hb).2⟩,by rw [e3,Heap.size_push]; exact Nat.lt_succ_of_lt lt⟩
  rw [upd_ne (by rw [← hD]; exact Jz lt)]
  exact (f2 b hb).1
 have st3:tn 0 s3.heap:=T.keep _ _ _ st2 fun b _ o e=>by rw [e3]; exact Heap.get?_push_of_some _ e
 generalize hcl:cellsFrom (s3.heap.objs.size + 1) scope.names (cloFrom X.env.cells scope.names []) = cl
 have I4:=block_start I3 ok hN f3
 rw [hcl] at I4
 generalize hC:s3.heap.objs.size = C at I4
 generalize hH3:upd H2 D (.lst []) = H3 at I3 I4 w0 f3
 show codeAny _ _ (.compStart (.ListComp elt [⟨tg,iter,ifs,0⟩] scope pos) 0 (.ref it) (.ref D) (compEnvC scope cl C X.env)) (cpF (model X.prog X.w) X.A X.xe use Qf (.ref D) C X.env.frame) { s3 with heap:=pushCells (s3.heap.push { cls:=.type "dict",data:=.dict #[] }) scope.names }
 rw [hf]
 generalize hs4:({ s3 with heap:=pushCells (s3.heap.push { cls:=.type "dict",data:=.dict #[] }) scope.names }:Shared) = s4 at I4 ⊢
 have st4:tn 0 s4.heap:=T.keep _ _ _ st3 fun b _ o e=>by rw [← hs4]; exact pushCells_keeps _ _ _ _ (Heap.get?_push_of_some _ e)
 -- the block's context,its exceptions going on behind it
 let xe:Value → Shared → Prop:=notedBy (model X.prog X.w) X.A (compEnvC scope cl C X.env) fun e t=>cpF (model X.prog X.w) X.A X.xe use Qf (.ref D) C (some L) (.error e) t
 have I5:L2.Inv (BkX X scope s3 H3 C cl fp [] xe) [] (wipe σ (own.map (·.2))) H3 s4:=Qjm I4 xe fun p hp=>nomatch hp
 have tkB:TkL (BkX X scope s3 H3 C cl fp [] xe) L fun c d _ H=>W c d σ H:=fun u t x =>
  Qgf I3 (Nat.le_of_eq hC) (fun b hb=>⟨(f3 b hb).1.2.2.2.1,(f3 b hb).1.2.1,(f3 b hb).1.2.2.2.2.1,(f3 b hb).1.2.2.2.2.2⟩) tk hst h0 hf x
 have pg:=hg s3 H3 C cl fp [] xe
 have pt:=ht s3 H3 C cl fp [] xe
 have pe:=he _ s3 H3 C cl fp [] xe tkB
 have at':∀ {τ:L2.St} {H':Hp} {t:Shared},L2.Inv (BkX X scope s3 H3 C cl fp [] xe) [] τ H' t → (∀ b ∈ fp,H' b = none) → ∀ b ∈ fp,FpOk (BkX X scope s3 H3 C cl fp [] xe) [] H' b:=fun {τ H' t} I' n b hb =>
  ⟨n b hb,(I'.ok.exf b hb).1,I'.ok.exfs b hb,.inl hb,fun x c e=>(I'.ok.exf b hb).2 x c e,fun p hp=>nomatch (show p ∈ ([]:List (Addr × Obj)) from hp)⟩
 have loop:codeAny (model X.prog X.w) X.A (.compLoop (.ListComp elt [⟨tg,iter,ifs,0⟩] scope pos) 0 (.ref it) (.ref D) (compEnvC scope cl C X.env)) (cpF (model X.prog X.w) X.A X.xe use Qf (.ref D) C (some L)) s4:=by
  refine compLoop_any (fun n t=>∃ i H',L2.Inv (BkX X scope s3 H3 C cl fp [] xe) [] (wipe σ (own.map (·.2))) H' t ∧ tn i t.heap ∧ (∀ b ∈ fp,H' b = none) ∧ W_ i n H') ?_ m0 ⟨0,H3,I5,st4,fun b hb=>(f3 b hb).1.1,w0⟩
  rintro n t5 ⟨i,H5,J5,st5,n5,w5⟩
  rcases turn i n H5 w5 with ⟨stop,qq⟩ | ⟨go,Nx,hNx,step⟩
  ·refine wpAny_mono (T.done (BkX X scope s3 H3 C cl fp [] xe) rfl rfl rfl hc i [] t5 _ H5 xe J5 (at' J5 n5) st5 stop) (fun r t6 hr=>?_) fun _ _ z=>z
   obtain ⟨rfl,J6⟩:=hr
   have I7:L2.Inv X pins σ H5 t6:=I3.call' (ch:=fp) J6.os J6.base J6.hok J6.bare fun b hb=>⟨(f3 b hb).1.2.2.2.1,(f3 b hb).1.2.1,(f3 b hb).1.2.2.2.2.1,(f3 b hb).1.2.2.2.2.2⟩
   obtain ⟨m,hn,_⟩:=J6.loc
   exact hRR D C t6 m H5 I7 qq hn (I3.fpOk (Nat.le_of_eq hC) J6.free)
  ·refine wpAny_mono (T.item (BkX X scope s3 H3 C cl fp [] xe) rfl rfl rfl hc i [] t5 _ H5 xe J5 (at' J5 n5) st5 go) (fun r t6 hr=>?_) fun _ _ z=>z
   obtain ⟨u,rfl,h6⟩:=hr
   refine wpAny_mono h6 (fun _ t7 h7=>?_) fun _ _ z=>z
   obtain ⟨x,H7,J7,r7,y7,st7,n7⟩:=h7
   have P7:=J7.pinned (at' J7 n7) (T.obj _ _ st7)
   refine wpAny_mono (pg.run _ t7 _ H7 x u _ P7 r7 (step x H7 y7)) (fun _ t8 h8=>?_) fun _ _ z=>z
   obtain ⟨σ8,H8,J8,hw8,q8⟩:=h8
   refine wpAny_mono (pt.run _ t8 σ8 H8 _ J8 q8) (fun b t9 h9=>?_) fun _ _ z=>z
   obtain ⟨H9,J9,q9⟩:=h9
   have fin:∀ {t:Shared} {H':Hp},L2.Inv (BkX X scope s3 H3 C cl fp [] xe) ([] ++ pinsAt fp t7.heap) σ8 H' t → Nx H' → ∃ m,m < n ∧ ∃ i H',L2.Inv (BkX X scope s3 H3 C cl fp [] xe) [] (wipe σ (own.map (·.2))) H' t ∧ tn i t.heap ∧ (∀ b ∈ fp,H' b = none) ∧ W_ i m H':=fun {t H'} I' nx=>by
    obtain ⟨m',hm,w'⟩:=hNx H' nx
    have pin:∀ b ∈ fp,∀ o,t7.heap.get? b = some o → t.heap.get? b = some o ∧ H' b = none:=fun b hb o e =>
     let z:=I'.pin (b,o) (Qd _ (Qd _ (mem_pinsAt hb e)))
     ⟨z.1,z.2.1⟩
    refine ⟨m',hm,i + 1,H',(I'.unpinned (pins:=[])).weak (by rw [← hw8,wipe_length]) (fun j v e=>?_),T.keep _ _ _ st7 fun b hb o e=>(pin b hb o e).1,fun b hb=>?_,w'⟩
    ·rw [← hw8] at e
     exact (wipe_some e).1
    ·obtain ⟨o,e,_⟩:=T.obj _ _ st7 b hb
     exact (pin b hb o e).2
   cases b with
   | false =>
    simp only [Qx,if_false] at q9 ⊢
    exact fin J9 q9
   | true =>
    simp only [if_true] at q9 ⊢
    refine wpAny_mono (pe.run _ t9 σ8 H9 _ J9 q9) (fun z t10 h10=>?_) fun _ _ z=>z
    obtain ⟨yv,H10,J10,r10,acc,hD10,hz10,nx⟩:=h10
    exact app_ok (X:=BkX X scope s3 H3 C cl fp [] xe) J10 hD10 hz10 r10 fun t11 J11=>fin J11 nx
 exact codeAny_compStart_list loop (T.self X.A 0 _ _ _ st4 loop)
end Z
namespace Z
open PySem PySem.Spec PyProof.Rows L2
inductive Rl where
 | ok (l:List D)
 | ex (c:Str)
def Qga (l:List D):Rl → Rl
 | .ok r=>.ok (l ++ r)
 | .ex e=>.ex e
def QeL (d:D):Rl → Rl
 | .ok r=>.ok (d :: r)
 | .ex e=>.ex e
theorem Qg0 (r:Rl):Qga [] r = r:=by cases r <;> rfl
theorem QdJ (l:List D) (d:D) (r:Rl):Qga l (QeL d r) = Qga (l ++ [d]) r:=by
 cases r with
 | ok r=>unfold Qga QeL; simp
 | ex e=>rfl
def Q1t (T:Tt) (vs:List Nat) (c:List Sl → Option (Bool × List Sl)) (f:List Sl → Option (Rs × List Sl)):List D → List Sl → Option (Rl × List Sl)
 | [],δ=>some (.ok [],δ)
 | d :: r,δ=>(Vu T d δ).bind fun δ1=>(c δ1).bind fun p=>match p.1 with
  | true=>(f p.2).bind fun q=>match q.1 with
   | .ex e=>some (.ex e,Vo vs q.2)
   | .ok d=>(Q1t T vs c f r (Vo vs q.2)).map fun z=>(QeL d z.1,z.2)
  | false=>Q1t T vs c f r (Vo vs p.2)
def rlS:Rl → Rs
 | .ok l=>.ok (.list l)
 | .ex e=>.ex e
def Q5a (T:Tt) (vs:List Nat) (it:List Sl → Option (List D × List Sl)) (c:List Sl → Option (Bool × List Sl)) (f:List Sl → Option (Rs × List Sl)):List Sl → Option (Rs × List Sl):=fun δ=>(it δ).bind fun p =>
 if noS vs p.2 && decide (p.1.length ≤ sizeLine) then (Q1t T vs c f p.1 p.2).map fun q=>(rlS q.1,q.2) else none
def QdQ (K:PySem.W.Frag) (f:List Sl → Option (Rs × List Sl)) (M:List Nat) (W:WX):TE:=fun σ H Q=>∃ (Y:Fx) (F:Hp) (δ:List Sl) (A:Nat → List Addr) (r:Rs) (δ':List Sl),SR K Y F H δ σ A ∧ f δ = some (r,δ') ∧
 match r with
 | .ok d=>∀ v F' H',Stp A M F H F' H' → SR K Y F' H' δ' σ A → Rp K F' v d → Q v H'
 | .ex c=>∀ F' H' C,Stp A M F H F' H' → SR K Y F' H' δ' σ A → Q0r K c C → W (.ref C) none σ H'
theorem EVX.pe {X:Cx} {W:WX} {e:Expr} {f M} (h:EVX X W e f M):PE X e (QdQ X.K f M W):=by
 obtain ⟨t,p,q⟩:=h
 refine ⟨fun pins s σ H Q I z=>?_⟩
 obtain ⟨Y,F,δ,A,r,δ',S,e1,k⟩:=z
 exact p.run pins s σ H Q I (q Y F H δ σ A S r δ' e1 Q k)
theorem Qfx {K:PySem.W.Frag} {Y:Fx} {F1 H1 F' H':Hp} {δ1 δ':List Sl} {σ:L2.St} {A:Nat → List Addr} {vs:List Nat} (S1:SR K Y F1 H1 δ1 σ A) (hA:∀ j ∈ vs,A j = []) (hio:∀ j ∈ vs,Y.io j = false) (S':SR K Y F' H' δ' (wipe σ vs) A) (hno:noS vs δ' = true):SR K Y F' H' δ' σ A:=by
 refine ⟨by rw [S'.len,wipe_length],fun j t et=>?_,S'.out,S'.dis,S'.hid,S'.new,S'.sub,fun j h1=>?_,S'.ioA,S'.kp,S'.nw,S'.f0,S'.lio,fun j c0 fs0 eo=>?_,S'.vno⟩
 ·by_cases cj:j ∈ vs
  ·rw [Q1v hno cj] at et
   cases et
   exact hA j cj
  ·have:=S'.slot j t et
   rw [Wc cj] at this
   exact this
 ·have cj:j ∉ vs:=fun z=>by rw [S1.nlt (hio j z)] at h1; cases h1
  have:=S'.fix j h1
  rw [Wc cj] at this
  exact this
 ·have cj:j ∉ vs:=fun z=>by
   rw [Q1v hno z] at eo
   cases eo
  obtain ⟨h1,h2⟩:=S'.ob j c0 fs0 eo
  rw [Wc cj] at h2
  refine ⟨h1,fun p0 C0 dx0 fvs0 e10 e20=>?_⟩
  rw [h2 p0 C0 dx0 fvs0 e10 e20]
  exact Q5h fun q hq=>Wc fun z=>by have:=h1 q hq; rw [S1.nvt (hio q.2 z)] at this; cases this
theorem QeU {X:Cx} {W:WX} {T:Tt} {vs:List Nat} {f c fe} {R M Mt Me:List Nat} {wi:TI}
  (hi:∀ (Y:Fx) (F H:Hp) (δ:List Sl) (σ:L2.St) (A:Nat → List Addr),SR X.K Y F H δ σ A → ∀ (ds:List D) (δ':List Sl),f δ = some (ds,δ') → ∀ Q:It → Hp → Prop,
   (∀ J F' H',Stp A M F H F' H' → SR X.K Y F' H' δ' σ A → Wk X.K F' (ex R A F' H') J ds → Q J H') → wi σ H Q)
  (hT:∀ j ∈ tS T,j ∈ vs) (dj:∀ i ∈ R,i ∉ Mt ++ Me:=by decide) (Y:Fx) (F H:Hp) (δ:List Sl) (σ:L2.St) (A:Nat → List Addr) (S:SR X.K Y F H δ σ A) (z:Rs) (δ':List Sl) (e:Q5a T vs f c fe δ = some (z,δ')) (Q:VK)
  (k:match (generalizing:=false) z with
   | .ok z=>∀ p F' H',Stp A (M ++ (Mt ++ Me)) F H F' H' → SR X.K Y F' H' δ' σ A → H p = none → F' p = none → Q0n X.K F' H' p z → Q (.ref p) H'
   | .ex c=>∀ F' H' C,Stp A (M ++ (Mt ++ Me)) F H F' H' → SR X.K Y F' H' δ' σ A → Q0r X.K c C → W (.ref C) none σ H') :
  tLc wi (tGV X.K T) (tTV X.K c Mt) (QdQ X.K fe Me (fun c d _ H=>W c d σ H)) vs σ H Q:=by
 unfold Q5a at e
 cases e1:f δ with
 | none=>rw [e1] at e; cases e
 | some w =>
  obtain ⟨ds,δ1⟩:=w
  rw [e1] at e
  simp only [Q1] at e
  split at e
  ·rename_i cn
   rw [Q5,decide_eq_true_eq] at cn
   obtain ⟨cn,csz⟩:=cn
   cases e2:Q1t T vs c fe ds δ1 with
   | none=>rw [e2] at e; cases e
   | some w =>
    obtain ⟨zs,δ2⟩:=w
    rw [e2] at e
    cases e
    refine hi Y F H δ σ A S ds δ1 e1 _ fun J F1 H1 st S1 wk=>?_
    intro p hp
    have hpF:F1 p = none:=S1.sub.free hp
    have hA:∀ j ∈ vs,A j = []:=S1.noA cn
    have hio:∀ j ∈ vs,Y.io j = false:=fun j hj=>by
     cases q:Y.io j with
     | false=>rfl
     | true=>exact absurd (Q1v cn hj) (S1.vno j q)
    have hl1:∀ j ∈ vs,j < δ1.length:=fun j hj=>(Q8.mp (Q1v cn hj)).1
    have Sw:SR X.K Y F1 H1 δ1 (wipe σ vs) A:=by
     have q:=S1.wiped (vs:=vs) (σ:=σ) rfl hA hio hl1
     rw [Qb6 cn] at q
     exact q
    -- the invariant
    let Inv_:Nat → Hp → Prop:=fun i H'=>∃ F' δ' zs' acc,Stp A (Mt ++ Me) F1 H1 F' H' ∧ SR X.K Y F' H' δ' (wipe σ vs) A ∧ H' p = some (.lst acc) ∧ F' p = none ∧ Rps X.K F' acc zs' ∧ acc.length ≤ i ∧ δ'.length = δ1.length ∧ noS vs δ' = true ∧
     ∃ zr,Q1t T vs c fe (ds.drop i) δ' = some (zr,δ2) ∧ zs = Qga zs' zr
    have start:Inv_ 0 (upd H1 p (.lst [])):=⟨F1,δ1,[],[],Stp.laidO hp,Sw.laidO hp,upd_same,hpF,.nil,Jf _,rfl,cn,zs,by rw [List.drop_zero]; exact e2,(Qg0 _).symm⟩
    have seen:∀ {F' H' δ'},Stp A (Mt ++ Me) F1 H1 F' H' → SR X.K Y F' H' δ' (wipe σ vs) A → Same (ex R A F1 H1) H':=fun {F' H' δ'} st' S' a o ea=>by
     unfold ex at ea
     by_cases ca:∃ i ∈ R,a ∈ A i
     ·rw [if_pos ca] at ea
      obtain ⟨i,hi,ha⟩:=ca
      refine st'.kp a o ea fun j hj hz=>?_
      have:=S1.dis j i a hz ha
      subst this
      exact dj _ hi hj
     ·rw [if_neg ca] at ea
      exact S'.sub a o (st'.f a o ea)
    refine ⟨fun i m H'=>m = ds.length - i ∧ i ≤ ds.length ∧ Inv_ i H',⟨ds.length,by simp,Jo _,start⟩,?_⟩
    rintro i m H' ⟨rfl,hi,F',δ',zs',acc,st',S',hD,hDF,ra,hal,hl,hno,zr,ec,ezs⟩
    have nA:∀ j,p ∉ A j:=fun j hj=>S1.isSome hj hp
    by_cases hlt:i < ds.length
    ·have hd:ds.drop i = ds[i] :: ds.drop (i + 1):=List.drop_eq_getElem_cons hlt
     rw [hd] at ec
     unfold Q1t at ec
     cases e3:Vu T ds[i] δ' with
     | none=>rw [e3] at ec; cases ec
     | some δ3 =>
      rw [e3] at ec
      simp only [Q1] at ec
      cases e4:c δ3 with
      | none=>rw [e4] at ec; cases ec
      | some w =>
       obtain ⟨b,δ4⟩:=w
       rw [e4] at ec
       simp only [Q1] at ec
       refine .inr ⟨wk.go i H' hlt (seen st' S'),fun H2=>Inv_ (i + 1) H2,fun H2 h=>⟨ds.length - (i + 1),by omega,rfl,by omega,h⟩,fun x H2 y=>?_⟩
       have main:∀ F2,Stp A (Mt ++ Me) F1 H1 F2 H2 → Same F' F2 → SR X.K Y F2 H2 δ' (wipe σ vs) A → H2 p = some (.lst acc) → F2 p = none → Rp X.K F2 x ds[i] →
         tGV X.K T x (wipe σ vs) H2 fun σ2 H2=>wipe σ2 vs = wipe σ vs ∧ tTV X.K c Mt σ2 H2 fun b H3 =>
          if b = true then QdQ X.K fe Me (fun c d _ H=>W c d σ H) σ2 H3 fun y H4=>∃ acc,H4 p = some (.lst acc) ∧ acc.length < sizeLine ∧ Inv_ (i + 1) (upd H4 p (.lst (acc ++ [y]))) else Inv_ (i + 1) H3:=by
        intro F2 st2 s2 S2 hD2 hF2 r2
        refine ⟨Y,F2,δ',A,ds[i],δ3,fun j hj=>hio j (hT j hj),S2,r2,e3,fun σ3 A3 bt S3=>?_⟩
        have eA:A3 = A:=by
         funext j
         by_cases c:j ∈ tS T
         ·rw [bt.e j c,hA j (hT j c)]
         ·exact bt.a j c
        subst eA
        have hl3:σ3.length = (wipe σ vs).length:=by
         rw [← S3.len,← S2.len]
         exact Q2T e3
        have hw:wipe σ3 vs = wipe σ vs:=by
         have q:wipe σ3 vs = wipe (wipe σ vs) vs:=Q6R hl3 fun j hj=>bt.s j fun z=>hj (hT j z)
         rw [q]
         exact Q6R (wipe_length _ _) fun j hj=>Wc hj
        refine ⟨hw,Y,F2,δ3,A3,b,δ4,S3,e4,fun F3 H3 st3 S4=>?_⟩
        have st3':=(st2.trans S2 st3).mono (M':=Mt ++ Me) fun j hj=>by
         rcases Qc.mp hj with z | z
         ·exact z
         ·exact Q9 _ z
        have hD3:H3 p = some (.lst acc):=st3.kp p _ hD2 fun j _ hz=>nA j hz
        have hF3:F3 p = none:=by
         cases q:F3 p with
         | none=>rfl
         | some o =>
          have:=st3.nw p hF2 (by rw [q]; simp)
          rw [hD2] at this
          cases this
        have hl4:δ4.length = δ1.length:=by
         rw [S4.len,hl3,← S2.len]
         exact hl
        have hls4:∀ j ∈ vs,j < δ4.length:=fun j hj=>by rw [hl4]; exact hl1 j hj
        cases b with
        | false =>
         refine iteF ⟨F3,Vo vs δ4,zs',acc,st3',S4.wiped hw hA hio hls4,hD3,hF3,ra.mono (s2.trans st3.f),by omega,by rw [Kd]; exact hl4,?_,zr,ec,ezs⟩
         exact Qe.mpr fun j hj=>by rw [Q0j hj (hls4 j hj)]
        | true =>
         refine iteT ?_
         simp only at ec
         cases e5:fe δ4 with
         | none=>rw [e5] at ec; cases ec
         | some w =>
          obtain ⟨rs,δ5⟩:=w
          rw [e5] at ec
          simp only [Q1] at ec
          cases rs with
          | ex cx =>
           simp only [Ja.injEq,Prod.mk.injEq] at ec
           obtain ⟨rfl,rfl⟩:=ec
           subst ezs
           refine ⟨Y,F3,δ4,A3,.ex cx,δ5,S4,e5,fun F4 H4 C st4 S5 hC=>?_⟩
           have st4':=(st3'.trans S4 st4).mono (M':=Mt ++ Me) fun j hj=>by
            rcases Qc.mp hj with z | z
            ·exact z
            ·exact Qd _ z
           have hl5:δ5.length = δ1.length:=by
            rw [S5.len,hl3,← S2.len]
            exact hl
           have hls5:∀ j ∈ vs,j < δ5.length:=fun j hj=>by rw [hl5]; exact hl1 j hj
           exact k F4 H4 C (st.trans S1 st4') (Qfx S1 hA hio (S5.wiped hw hA hio hls5) (Qe.mpr fun j hj=>by rw [Q0j hj (hls5 j hj)])) hC
          | ok d =>
           cases e6:Q1t T vs c fe (ds.drop (i + 1)) (Vo vs δ5) with
           | none=>rw [e6] at ec; cases ec
           | some w =>
            obtain ⟨zr',δ6⟩:=w
            rw [e6] at ec
            simp only [Qi,Ja.injEq,Prod.mk.injEq] at ec
            obtain ⟨rfl,rfl⟩:=ec
            refine ⟨Y,F3,δ4,A3,.ok d,δ5,S4,e5,fun v F4 H4 st4 S5 r4=>?_⟩
            have st4':=(st3'.trans S4 st4).mono (M':=Mt ++ Me) fun j hj=>by
             rcases Qc.mp hj with z | z
             ·exact z
             ·exact Qd _ z
            have hD4:H4 p = some (.lst acc):=st4.kp p _ hD3 fun j _ hz=>nA j hz
            have hF4:F4 p = none:=by
             cases q:F4 p with
             | none=>rfl
             | some o =>
              have:=st4.nw p hF3 (by rw [q]; simp)
              rw [hD3] at this
              cases this
            have hl5:δ5.length = δ1.length:=by
             rw [S5.len,hl3,← S2.len]
             exact hl
            have hls5:∀ j ∈ vs,j < δ5.length:=fun j hj=>by rw [hl5]; exact hl1 j hj
            have Sf:SR X.K Y F4 (upd H4 p (.lst (acc ++ [v]))) δ5 σ3 A3:=S5.upd_free hF4 nA (by
             cases q:Y.H0 p with
             | none=>rfl
             | some o=>rw [S1.fresh0 hp] at q; cases q)
            refine ⟨acc,hD4,by omega,F4,Vo vs δ5,zs' ++ [d],acc ++ [v],?_,Sf.wiped hw hA hio hls5,upd_same,hF4,((ra.mono ((s2.trans st3.f).trans st4.f)).append (.cons r4 .nil)),by rw [Qb]; simp; omega,by rw [Kd]; exact hl5,?_,zr',e6,by rw [ezs,QdJ]⟩
            ·exact ⟨st4'.f,st4'.nw,fun a o ea hn=>by rw [upd_ne (ne_of_none ea hp)]; exact st4'.kp a o ea hn⟩
            ·exact Qe.mpr fun j hj=>by rw [Q0j hj (hls5 j hj)]
       have sE:=seen st' S'
       rcases wk.yld i H' x H2 _ sE y (Qa hlt) with ⟨rfl,r⟩ | ⟨U,xs,es,nU,rfl,rfl,e5,r⟩
       ·exact main F' st' (Same.refl _) S' hD hDF (r.mono st'.f)
       ·have l:=Stp.laid (M:=[]) (o:=.tup xs) S' nU
        have npU:p ≠ U:=ne_of_none hD nU
        refine main _ (Vj S' st' l) l.f (S'.laid nU) (by rw [upd_ne npU]; exact hD) (by rw [upd_ne npU]; exact hDF) ?_
        rw [e5]
        exact .tup (.inl (.inl upd_same)) (r.mono (st'.f.trans l.f))
    ·have hi2:i = ds.length:=by omega
     subst hi2
     rw [List.drop_length] at ec
     unfold Q1t at ec
     simp only [Ja.injEq,Prod.mk.injEq] at ec
     obtain ⟨rfl,rfl⟩:=ec
     have ezs:zs = .ok zs':=by rw [ezs]; show Rl.ok (zs' ++ []) = _; rw [J4]
     subst ezs
     exact .inl ⟨wk.stop H' (seen st' S'),k p F' H' (st.trans S1 st') (Qfx S1 hA hio S' hno) (Q6F st S1 hp) hDF ⟨acc,hD,ra⟩⟩
  ·cases e
section
variable {X:Cx} {W:WX} {T:Tt} {f c} {fe:List Sl → Option (Rs × List Sl)} {R M Mt Me:List Nat} {elt tg iter:Expr} {ifs:List Expr} {scope:Scope} {own:List (Str × Nat)} {pos:Pos} {wi:TI} {g:TG} {tt:TT} {te:WX → TE} {L:Addr} {e0:Env} {o0:List Env}
def tLx (wi:TI) (g:TG) (tt:TT) (te:WX → TE) (W:WX) (vs:List Nat):TE:=fun σ H Q=>tLc wi g tt (te fun c d _ H=>W c d σ H) vs σ H Q
theorem QiI (hc:X.calm = true) (hN:X.N.Nodup) (hi:PI X tg iter wi) (ok:BlkOk X.N X.env.scope scope own) (tk:TkL X L W) (hst:X.stack = e0 :: o0) (h0:e0.frame = some L) (hf:X.env.frame = some L)
  (hg:∀ s H C cl fp pn xe,PG (BkX X scope s H C cl fp pn xe) tg g) (ht:∀ s H C cl fp pn xe,PTs (BkX X scope s H C cl fp pn xe) ifs tt)
  (he:∀ W' s H C cl fp pn xe,TkL (BkX X scope s H C cl fp pn xe) L W' → PE (BkX X scope s H C cl fp pn xe) elt (te W')) (hs:∀ x,foldedSetIterable iter X.env x = pure x:=by intro _; rfl) :
  PE X (.ListComp elt [⟨tg,iter,ifs,0⟩] scope pos) (tLx wi g tt te W (own.map (·.2))):=by
 refine ⟨fun pins s σ H Q I h=>?_⟩
 rw [eval_ListComp]
 refine Qad (use:=none) hc hN I hi ok tk hst h0 hf hg ht he hs h fun D C t m H' J q hn fr=>⟨m,hn,fun h2 sb=>?_⟩
 have J2:L2.Inv X pins σ H' { t with heap:=h2,toks:=t.toks }:=J.turned (fun b o hb e=>(sb.2 b hb).trans e) fr.1 fr.2.1 fr.2.2.2.1 fr.2.2.2.2.1 fr.2.2.2.2.2
 exact ⟨.ref D,H',J2,rfl,q⟩
theorem Qe6 {i:Nat} {y:Str} {py spos:Pos} (hc:X.calm = true) (hN:X.N.Nodup) (hy:X.N[i]? = some y) (hl:X.env.scope.names.lookup y = some .local) (hsw:swapsWith (.ListComp elt [⟨tg,iter,ifs,0⟩] scope pos) (some (.Name y py)) spos.line X.env = pure true)
  (hi:PI X tg iter wi) (ok:BlkOk X.N X.env.scope scope own) (tk:TkL X L W) (hst:X.stack = e0 :: o0) (h0:e0.frame = some L) (hf:X.env.frame = some L)
  (hg:∀ s H C cl fp pn xe,PG (BkX X scope s H C cl fp pn xe) tg g) (ht:∀ s H C cl fp pn xe,PTs (BkX X scope s H C cl fp pn xe) ifs tt)
  (he:∀ W' s H C cl fp pn xe,TkL (BkX X scope s H C cl fp pn xe) L W' → PE (BkX X scope s H C cl fp pn xe) elt (te W')) (hs:∀ x,foldedSetIterable iter X.env x = pure x:=by intro _; rfl) :
  PS X (.Assign [.Name y py] (.ListComp elt [⟨tg,iter,ifs,0⟩] scope pos) spos) (tAsg (tLx wi g tt te W (own.map (·.2))) (gName i)):=by
 refine ⟨fun pins s σ H D I h=>?_⟩
 rw [exec_Assign_Name_used _ _ _ _ hsw]
 refine wpAny_bind (wpAny_standAt (wpAny_bind ?_))
 have h':tLc wi g tt (te fun c d _ H=>W c d σ H) (own.map (·.2)) σ H (fun x H1=>gName i x σ H1 D.nx):=h
 refine wpAny_bind (m:=comprehension (.ListComp elt [⟨tg,iter,ifs,0⟩] scope pos) scope X.env (firstIterPos [⟨tg,iter,ifs,0⟩] pos) (newList []) false (eval iter X.env) (some (assign (.Name y py) X.env))) ?_
 refine thn (Qad (Qf:=fun _ t=>L2.SP X pins D .next t) hc hN I hi ok tk hst h0 hf hg ht he hs h' fun N C t m H' J q hn fr=>?_) fun _ t hq=>wpAny_pure (wpAny_pure hq)
 show wpAny _ _ (assign (.Name y py) X.env (.ref N)) _ _ _
 refine wpAny_assign_Name (store_ok2 (v:=V.ref N) J hN hy (.inl hl) rfl (fun t2 J2 ⟨b,sb,hb⟩=>?_) (.inr hl))
 have neb:C ≠ b:=by
  rcases hb with z | z
  ·rw [z]; exact fr.2.1
  ·exact fun e=>fr.2.2.2.2.1 y b z e.symm
 refine ⟨m,hn.sameBut sb neb,fun h3 sb3=>⟨_,H',?_,q⟩⟩
 exact J2.turned (t':=t2.toks) (fun b o hb e=>(sb3.2 b hb).trans e) fr.1 fr.2.1 fr.2.2.2.1 fr.2.2.2.2.1 fr.2.2.2.2.2
theorem Qdx {vs:List Nat} {δ δ':List Sl} {z:D} (e:Q5a T vs f c fe δ = some (.ok z,δ')):∃ l,z = .list l:=by
 unfold Q5a at e
 obtain ⟨p,_,e⟩:=Qt.mp e
 split at e
 ·obtain ⟨⟨q,δ2⟩,_,e⟩:=Ql.mp e
  cases q with
  | ok l=>cases e; exact ⟨l,rfl⟩
  | ex c=>cases e
 ·cases e
theorem QcG (hi:∀ (Y:Fx) (F H:Hp) (δ:List Sl) (σ:L2.St) (A:Nat → List Addr),SR X.K Y F H δ σ A → ∀ (ds:List D) (δ':List Sl),f δ = some (ds,δ') → ∀ Q:It → Hp → Prop,
   (∀ J F' H',Stp A M F H F' H' → SR X.K Y F' H' δ' σ A → Wk X.K F' (ex R A F' H') J ds → Q J H') → wi σ H Q)
  (hT:∀ j ∈ tS T,j ∈ own.map (·.2)) (dj:∀ i ∈ R,i ∉ Mt ++ Me) (Y:Fx) (F H:Hp) (δ:List Sl) (σ:L2.St) (A:Nat → List Addr) (S:SR X.K Y F H δ σ A) (r:Rs) (δ':List Sl) (e:Q5a T (own.map (·.2)) f c fe δ = some (r,δ')) (Q:VK)
  (k:match (generalizing:=false) r with
   | .ok d=>∀ v F' H',Stp A (M ++ (Mt ++ Me)) F H F' H' → SR X.K Y F' H' δ' σ A → Rp X.K F' v d → Q v H'
   | .ex c=>∀ F' H' C,Stp A (M ++ (Mt ++ Me)) F H F' H' → SR X.K Y F' H' δ' σ A → Q0r X.K c C → W (.ref C) none σ H') :
  tLx wi (tGV X.K T) (tTV X.K c Mt) (QdQ X.K fe Me) W (own.map (·.2)) σ H Q:=by
 refine QeU (W:=W) hi hT dj Y F H δ σ A S r δ' e Q ?_
 cases r with
 | ex c=>exact k
 | ok z =>
  obtain ⟨ds,rfl⟩:=Qdx e
  intro p F1 H1 st1 S1 n f o
  obtain ⟨xs,hu,o2⟩:=id o
  obtain ⟨st3,S3,sF⟩:=SR.give S S1 st1 n f hu
  exact k _ _ _ st3 S3 (Q5W (d:=.list ds) ⟨xs,hu,o2⟩ sF (by rw [upd_same,hu]))
theorem Qis (hc:X.calm = true) (hN:X.N.Nodup) (hi:IV X tg iter f R M) (ok:BlkOk X.N X.env.scope scope own) (tk:TkL X L W) (hst:X.stack = e0 :: o0) (h0:e0.frame = some L) (hf:X.env.frame = some L)
  (hg:∀ s H C cl fp pn xe,GV (BkX X scope s H C cl fp pn xe) tg T) (ht:∀ s H C cl fp pn xe,TsV (BkX X scope s H C cl fp pn xe) ifs c Mt)
  (he:∀ W' s H C cl fp pn xe,TkL (BkX X scope s H C cl fp pn xe) L W' → EVX (BkX X scope s H C cl fp pn xe) W' elt fe Me)
  (hs:∀ x,foldedSetIterable iter X.env x = pure x:=by intro _; rfl) (hT:∀ j ∈ tS T,j ∈ own.map (·.2):=by decide) (dj:∀ i ∈ R,i ∉ Mt ++ Me:=by decide):EVX X W (.ListComp elt [⟨tg,iter,ifs,0⟩] scope pos) (Q5a T (own.map (·.2)) f c fe) (M ++ (Mt ++ Me)):=by
 obtain ⟨wi,pw,qi⟩:=hi
 refine ⟨_,QiI (g:=tGV X.K T) (tt:=tTV X.K c Mt) (te:=QdQ X.K fe Me) hc hN pw ok tk hst h0 hf (fun s H C cl fp pn xe=>(hg s H C cl fp pn xe).pg) (fun s H C cl fp pn xe=>(ht s H C cl fp pn xe).pts) (fun W' s H C cl fp pn xe t=>(he W' s H C cl fp pn xe t).pe) hs,fun Y F H δ σ A S r δ' e Q k=>?_⟩
 exact QcG qi hT dj Y F H δ σ A S r δ' e Q k
theorem QeY {io:Iom} {vt:Nat → Bool} {fr:FrO} {i:Nat} {y:Str} {py spos:Pos} (hio:io i = false) (Tg_:Tg X i y) (hc:X.calm = true) (hN:X.N.Nodup) (hl:X.env.scope.names.lookup y = some .local) (hsw:swapsWith (.ListComp elt [⟨tg,iter,ifs,0⟩] scope pos) (some (.Name y py)) spos.line X.env = pure true)
  (hi:IV X tg iter f R M) (ok:BlkOk X.N X.env.scope scope own) (tk:TkL X L W) (hst:X.stack = e0 :: o0) (h0:e0.frame = some L) (hf:X.env.frame = some L)
  (hg:∀ s H C cl fp pn xe,GV (BkX X scope s H C cl fp pn xe) tg T) (ht:∀ s H C cl fp pn xe,TsV (BkX X scope s H C cl fp pn xe) ifs c Mt)
  (he:∀ W' s H C cl fp pn xe,TkL (BkX X scope s H C cl fp pn xe) L W' → EVX (BkX X scope s H C cl fp pn xe) W' elt fe Me)
  (hs:∀ x,foldedSetIterable iter X.env x = pure x:=by intro _; rfl) (hT:∀ j ∈ tS T,j ∈ own.map (·.2):=by decide) (dj:∀ i ∈ R,i ∉ Mt ++ Me:=by decide):SX X W io vt fr (.Assign [.Name y py] (.ListComp elt [⟨tg,iter,ifs,0⟩] scope pos) spos) (Q77 i (Q5a T (own.map (·.2)) f c fe)):=by
 obtain ⟨wi,pw,qi⟩:=hi
 refine ⟨_,Qe6 (g:=tGV X.K T) (tt:=tTV X.K c Mt) (te:=QdQ X.K fe Me) hc hN Tg_.at_ hl hsw pw ok tk hst h0 hf (fun s H C cl fp pn xe=>(hg s H C cl fp pn xe).pg) (fun s H C cl fp pn xe=>(ht s H C cl fp pn xe).pts) (fun W' s H C cl fp pn xe t=>(he W' s H C cl fp pn xe t).pe) hs,fun Y F H δ σ A hY hv S o e D k=>?_⟩
 unfold Q77 at e
 obtain ⟨⟨r,δ1⟩,e1,e2⟩:=Qt.mp e
 refine QcG qi hT dj Y F H δ σ A S r δ1 e1 _ ?_
 cases r with
 | ok d =>
  simp only at e2
  split at e2
  ·rename_i hi
   cases e2
   exact fun v F1 H1 st S1 rv=>k _ F1 H1 _ st.f (S1.putFz hi (by rw [hY]; exact hio) rv)
  ·cases e2
 | ex c=>cases e2; exact fun F1 H1 C st S1 hC=>k σ σ F1 H1 A C st.f (GE.refl _) S1 hC
end
end Z
namespace Z
open PySem PySem.Spec PyProof.Rows L2

end Z
namespace Z
open PySem PySem.Spec PyProof.Rows L2
structure ZsH (h:Heap) (z ti to_ i1 i2 a b:Addr) (i:Nat) (T:Option Addr):Prop where
 p:IsPair h ti (.ref i1) (.ref i2)
 j1:h.IsListIter i1 a i
 j2:h.IsListIter i2 b i
 o:∃ x y,IsPair h to_ x y
 k:match T with
  | none=>IsZip h z ti to_ .none
  | some t=>∃ f,IsZipHeld h z ti to_ t f
section
variable {h h':Heap} {z ti to_ i1 i2 a b:Addr} {i:Nat} {T:Option Addr}
theorem ZsH.z0 (s:ZsH h z ti to_ i1 i2 a b i none):IsZip h z ti to_ .none:=s.k
end

end Z
namespace Z
open PySem PySem.Spec PyProof.Rows L2

end Z
namespace Z
open PySem PySem.Spec PyProof.Rows L2

end Z
namespace Z
open PySem PySem.Spec PyProof.Rows L2
def Q2U:D → D → Option D
 | .str a,.int k=>if decide (0 ≤ k) && decide (k ≤ 1000000) && decide (a.length * k.toNat ≤ 1000000) then some (.str (Txt.mul a k)) else none
 | _,_=>none
theorem QgP {a:Str} {k:Int} (h0:0 ≤ k) (h1:k ≤ 1000000) (h2:a.length * k.toNat ≤ 1000000):PySem.MulOk a k:=by
 refine ⟨?_,fun hk _=>?_,fun _ _=>?_⟩
 ·rw [decide_eq_false (by omega),decide_eq_false (by omega)]
  rfl
 ·have hp:0 < k:=by omega
  have:(a.length:Int) ≤ (2 ^ 63 - 1) / k:=by
   rw [Int.le_ediv_iff_mul_le hp]
   have e:((a.length * k.toNat:Nat):Int) = (a.length:Int) * k:=by
    rw [Int.natCast_mul,Int.toNat_of_nonneg h0]
   omega
  omega
 ·show decide _ = false
  have:(1000000:Nat) ≤ sizeLine:=by decide
  exact decide_eq_false (by omega)
def Qif:R2:=fun x y H Q=>∃ a k,x = .str a ∧ y = .int k ∧ PySem.MulOk a k ∧ Q (.str (Txt.mul a k)) H
theorem Q19 {X:Cx}:OpR X (binaryOp .Mult) Qif:=by
 intro pins s σ H x y v u Q I r1 r2 q
 obtain ⟨a,k,rfl,rfl,ok,q⟩:=q
 obtain ⟨t,rfl⟩:=r1
 obtain ⟨t2,rfl⟩:=r2
 exact PySem.SB.mul ok fun t' k'=>⟨.str (Txt.mul a k),H,I.tok k',⟨t',rfl⟩,q⟩
theorem Q12 {X:Cx}:OpS X Qif Q2U:=by
 intro Y F H δ σ A R x y d e z S r1 r2 hg Q k
 unfold Q2U at hg
 split at hg
 ·split at hg
  ·rename_i hc
   cases hg
   simp only [Q5,decide_eq_true_eq] at hc
   have r1:=r1.str
   have r2:=r2.int
   subst r1; subst r2
   exact ⟨_,_,rfl,rfl,QgP hc.1.1 hc.1.2 hc.2,k _ F H Stp.refl S (.str _)⟩
  ·cases hg
 ·cases hg
section
variable {X:Cx}
def SE (X:Cx) (t:TE) (f:List Sl → Option (D × List Sl)) (R M:List Nat):Prop :=
 ∀ (Y:Fx) (F H:Hp) (δ:List Sl) (σ:L2.St) (A:Nat → List Addr),SR X.K Y F H δ σ A → ∀ (d:D) (δ':List Sl),f δ = some (d,δ') → ∀ Q:VK,
  (∀ v F' H',Stp A M F H F' H' → SR X.K Y F' H' δ' σ A → Vw X.K F' H' A R v d → Q v H') → t σ H Q
def SA (X:Cx) (t:TA) (f:List Sl → Option (List D × List Sl)) (R M:List Nat):Prop :=
 ∀ (Y:Fx) (F H:Hp) (δ:List Sl) (σ:L2.St) (A:Nat → List Addr),SR X.K Y F H δ σ A → ∀ (ds:List D) (δ':List Sl),f δ = some (ds,δ') → ∀ Q:List V → Hp → Prop,
  (∀ vs F' H',Stp A M F H F' H' → SR X.K Y F' H' δ' σ A → Vws X.K F' H' A R vs ds → Q vs H') → t σ H Q
def SC (X:Cx) (t:TA) (f:List Sl → Option (List Ar × List Sl)) (R M:List Nat):Prop :=
 ∀ (Y:Fx) (F H:Hp) (δ:List Sl) (σ:L2.St) (A:Nat → List Addr),SR X.K Y F H δ σ A → ∀ (as:List Ar) (δ':List Sl),f δ = some (as,δ') → ∀ Q:List V → Hp → Prop,
  (∀ vs F' H',Stp A M F H F' H' → SR X.K Y F' H' δ' σ A → ArR X.K F' H' A R σ vs as → Q vs H') → t σ H Q
def SS (X:Cx) (io:Iom) (fr:Fr) (t:TS) (g:List Sl → Option Out):Prop :=
 ∀ (Y:Fx) (F H:Hp) (δ:List Sl) (σ:L2.St) (A:Nat → List Addr),Y.io = io → SR X.K Y F H δ σ A → ∀ (o:Out),g δ = some o → ∀ D:Ends,Qe8 X.K Y fr F D o → t D σ H
def EVT (X:Cx) (e:Expr) (f:List Sl → Option (D × List Sl)) (R M:List Nat):Prop:=∃ t,PET X e t ∧ SE X t f R M
def AVT (X:Cx) (es:List Expr) (f:List Sl → Option (List D × List Sl)) (R M:List Nat):Prop:=∃ t,PAT X es t ∧ SA X t f R M
def CVT (X:Cx) (es:List Expr) (f:List Sl → Option (List Ar × List Sl)) (R M:List Nat) (n:Nat) (B:List Nat):Prop:=(∃ t,PAT X es t ∧ SC X t f R M) ∧ ∀ δ as δ',f δ = some (as,δ') → as.length = n ∧ ∀ i ∈ ios as,i ∈ B
def SVT (X:Cx) (io:Iom) (fr:Fr) (st:Stmt) (g:List Sl → Option Out):Prop:=∃ t,PST X st t ∧ SS X io fr t g
def BVT (X:Cx) (io:Iom) (fr:Fr) (st:List Stmt) (g:List Sl → Option Out):Prop:=∃ t,PSsT X st t ∧ SS X io fr t g
theorem Q9D {e:Expr} {f} {R M:List Nat} (h:EV X e f R M):EVT X e f R M:=let ⟨t,p,q⟩:=h; ⟨t,fun pins s σ H Q _ I q=>p.run pins s σ H Q I q,q⟩
def Qao (y z:Str):D → Option D
 | .str x=>if x.length + (x.length + 1) * z.length ≤ 16777216 then some (.str (Txt.replace x y z)) else none
 | _=>none
theorem Qb8 {o:Expr} {fo} {R M:List Nat} {y z:Str} {j k:Nat} {c0 c1 apos pos:Pos} (ho:EV X o fo R M) (hyz:(y == z) = false:=by decide)
  (hst:starEach [.Constant (.str y) j c0,.Constant (.str z) k c1] X.env = [(false,eval (.Constant (.str y) j c0) X.env),(false,eval (.Constant (.str z) k c1) X.env)]:=by rfl)
  (hbase:attributeBase o "replace" X.env (eval o X.env) = eval o X.env:=by rfl) (hline:(apos.endLine == pos.line) = true:=by rfl) :
  EVT X (.Call (.Attribute o "replace" apos) [.Constant (.str y) j c0,.Constant (.str z) k c1] [] pos) (f1 (Qao y z) fo) [] M:=by
 obtain ⟨t,p,q⟩:=ho
 refine ⟨_,CwR.pet_replC p hyz hst hbase hline,fun Y F H δ σ A S d δ' e Q kk=>?_⟩
 unfold f1 at e
 cases e1:fo δ with
 | none=>rw [e1] at e; cases e
 | some w =>
  obtain ⟨d1,δ1⟩:=w
  rw [e1] at e
  simp only [Q1] at e
  obtain ⟨d2,e2,e3⟩:=Ql.mp e
  cases e3
  refine q Y F H δ σ A S d1 _ e1 _ fun v F1 H1 st S1 r=>?_
  unfold Qao at e2
  split at e2
  ·split at e2
   ·rename_i hc
    cases e2
    have r':=r.str
    subst r'
    exact ⟨_,rfl,hc,kk _ F1 H1 st S1 (.inl (.str _))⟩
   ·cases e2
  ·cases e2
theorem QhO {r:R2} {g} {ta tb:TE} {fa fb} {Ra Rb Ma Mb:List Nat} (hs:OpS X r g) (qa:SE X ta fa Ra Ma) (qb:SE X tb fb Rb Mb) (dj:∀ i ∈ Ra,i ∉ Mb):SE X (tOp r ta tb) (f2 g fa fb) [] (Ma ++ Mb):=fun Y F H δ σ A S z δ' e Q k=>by
 obtain ⟨d,δ1,e',e1,e2,e3⟩:=Q6U e
 refine qa Y F H δ σ A S d δ1 e1 _ fun x F1 H1 st1 S1 r1=>?_
 refine qb Y F1 H1 δ1 σ A S1 e' δ' e2 _ fun y F2 H2 st2 S2 r2=>?_
 refine hs Y F2 H2 δ' σ A (Ra ++ Rb) x y d e' z S2 ((r1.step S1 st2 dj).mono fun i hi=>Q9 _ hi) (r2.mono fun i hi=>Qd _ hi) e3 Q fun v F3 H3 st3 S3 r3=>?_
 exact k v F3 H3 (Vj S2 (st1.trans S1 st2) st3) S3 (.inl r3)
theorem Qiq {op:Operator} {r:R2} {g} {a b:Expr} {fa fb} {Ra Rb Ma Mb:List Nat} {pos:Pos} (ho:OpR X (binaryOp op) r) (hs:OpS X r g) (ha:EVT X a fa Ra Ma) (hb:EVT X b fb Rb Mb) (dj:∀ i ∈ Ra,i ∉ Mb:=by decide):EVT X (.BinOp a op b pos) (f2 g fa fb) [] (Ma ++ Mb):=by
 obtain ⟨ta,pa,qa⟩:=ha
 obtain ⟨tb,pb,qb⟩:=hb
 exact ⟨_,CwR.pet_op ho pa pb,QhO hs qa qb dj⟩
theorem Qct:AVT X [] Yg [] []:=⟨_,pat_nil,fun Y F H δ σ A S d' δ' e Q k=>by
 cases e
 exact k _ _ _ Stp.refl S trivial⟩
theorem Qdi {ta:TE} {tb:TA} {fa fr} {Ra Rr Ma Mr:List Nat} (qa:SE X ta fa Ra Ma) (qb:SA X tb fr Rr Mr) (dj:∀ i ∈ Ra,i ∉ Mr):SA X (tCons ta tb) (Xq fa fr) (Ra ++ Rr) (Ma ++ Mr):=fun Y F H δ σ A S ds δ' e Q k=>by
 obtain ⟨d,δ1,r,e1,e2,rfl⟩:=Q4F e
 refine qa Y F H δ σ A S d δ1 e1 _ fun x F1 H1 st1 S1 r1=>?_
 refine qb Y F1 H1 δ1 σ A S1 r δ' e2 _ fun y F2 H2 st2 S2 r2=>?_
 exact k _ F2 H2 (st1.trans S1 st2) S2 ⟨(r1.step S1 st2 dj).mono fun i hi=>Q9 _ hi,r2.mono fun i hi=>Qd _ hi⟩
theorem Q37 {a:Expr} {es:List Expr} {fa fr} {Ra Rr Ma Mr:List Nat} (ha:EVT X a fa Ra Ma) (hr:AVT X es fr Rr Mr) (dj:∀ i ∈ Ra,i ∉ Mr:=by decide) (hs:starEach (a :: es) X.env = (false,eval a X.env) :: starEach es X.env:=by rfl):AVT X (a :: es) (Xq fa fr) (Ra ++ Rr) (Ma ++ Mr):=by
 obtain ⟨ta,pa,qa⟩:=ha
 obtain ⟨tb,pb,qb⟩:=hr
 exact ⟨_,pat_cons pa pb hs,Qdi qa qb dj⟩
theorem QeG {t:TA} {f} {M:List Nat} (q:SA X t f [] M):SE X (tLst t) (We f) [] M:=fun Y F H δ σ A S d δ' e Q k=>by
 unfold We at e
 cases e1:f δ with
 | none=>rw [e1] at e; cases e
 | some p =>
  obtain ⟨ds,δ1⟩:=p
  rw [e1] at e
  simp only [Q1] at e
  split at e
  ·rename_i hz
   cases e
   refine q Y F H δ σ A S ds δ' e1 _ fun vs F1 H1 st S1 r=>?_
   have r:=r.nil
   refine ⟨by rw [r.length]; exact hz,fun p hp=>?_⟩
   have n:H p = none:=by
    cases e5:H p with
    | none=>rfl
    | some o =>
     by_cases c:∃ i,p ∈ A i
     ·obtain ⟨i,hi⟩:=c
      exact absurd hp (S1.isSome hi)
     ·have:=st.kp p o e5 fun i _ hi=>c ⟨i,hi⟩
      rw [hp] at this
      cases this
   have o:Q0n X.K F1 (upd H1 p (.lst vs)) p (.list ds):=⟨vs,upd_same,r⟩
   obtain ⟨xs,hu,o2⟩:=id o
   obtain ⟨st3,S3,sF⟩:=SR.give S (S1.laidO hp) (Vj S1 st (Stp.laidO hp)) n (S1.sub.free hp) hu
   exact k _ _ _ st3 S3 (.inl (Q5W (d:=.list ds) ⟨xs,hu,o2⟩ sF (by rw [upd_same,hu])))
  ·cases e
theorem Qh9 {es:List Expr} {f} {M:List Nat} {pos:Pos} (h:AVT X es f [] M):EVT X (.List es pos) (We f) [] M:=let ⟨t,p,q⟩:=h; ⟨_,pet_lst p,QeG q⟩
theorem QgB:CVT X [] V2 [] [] 0 []:=⟨⟨_,pat_nil,fun Y F H δ σ A S d' δ' e Q k=>by
 cases e
 exact k _ _ _ Stp.refl S trivial⟩,fun δ as δ' e=>by cases e; exact ⟨rfl,fun _ h=>h⟩⟩
theorem Qg6 {a:Expr} {es:List Expr} {fa fr} {Ra Rr Ma Mr:List Nat} {n:Nat} {B:List Nat} (ha:EVT X a fa Ra Ma) (hr:CVT X es fr Rr Mr n B) (dj:∀ i ∈ Ra,i ∉ Mr:=by decide) (hs:starEach (a :: es) X.env = (false,eval a X.env) :: starEach es X.env:=by rfl):CVT X (a :: es) (Y8 fa fr) (Ra ++ Rr) (Ma ++ Mr) (n + 1) B:=by
 obtain ⟨ta,pa,qa⟩:=ha
 obtain ⟨⟨tb,pb,qb⟩,hl⟩:=hr
 refine ⟨⟨_,pat_cons pa pb hs,fun Y F H δ σ A S ds δ' e Q k=>?_⟩,fun δ as δ' e=>?_⟩
 ·unfold Y8 at e
  cases e1:fa δ with
  | none=>rw [e1] at e; cases e
  | some p =>
   obtain ⟨d,δ1⟩:=p
   rw [e1] at e
   simp only [Q1] at e
   cases e2:fr δ1 with
   | none=>rw [e2] at e; cases e
   | some q =>
    obtain ⟨r,δ2⟩:=q
    rw [e2] at e
    cases e
    refine qa Y F H δ σ A S d δ1 e1 _ fun x F1 H1 st1 S1 r1=>?_
    refine qb Y F1 H1 δ1 σ A S1 r _ e2 _ fun y F2 H2 st2 S2 r2=>?_
    exact k _ F2 H2 (st1.trans S1 st2) S2 ⟨(r1.step S1 st2 dj).mono fun i hi=>Q9 _ hi,r2.mono fun i hi=>Qd _ hi⟩
 ·unfold Y8 at e
  cases e1:fa δ with
  | none=>rw [e1] at e; cases e
  | some p =>
   rw [e1] at e
   simp only [Q1] at e
   cases e2:fr p.2 with
   | none=>rw [e2] at e; cases e
   | some q =>
    rw [e2] at e
    cases e
    obtain ⟨h1,h2⟩:=hl _ q.1 q.2 e2
    exact ⟨by rw [Qh,h1],h2⟩
theorem QjA {i:Nat} {x:Str} {pos:Pos} {es:List Expr} {fr} {R M:List Nat} {n:Nat} {B:List Nat} (nm:Nm X i x) (hr:CVT X es fr R M n B) (hs:starEach (.Name x pos :: es) X.env = (false,eval (.Name x pos) X.env) :: starEach es X.env:=by rfl):CVT X (.Name x pos :: es) (kIo i fr) R M (n + 1) (i :: B):=by
 obtain ⟨⟨tb,pb,qb⟩,hl⟩:=hr
 refine ⟨⟨_,pat_cons (fun pins s σ H Q _ I q=>nm.pe.run pins s σ H Q I q) pb hs,fun Y F H δ σ A S ds δ' e Q k=>?_⟩,fun δ as δ' e=>?_⟩
 ·unfold kIo at e
  split at e
  ·rename_i ho
   cases e2:fr δ with
   | none=>rw [e2] at e; cases e
   | some q =>
    obtain ⟨r,δ2⟩:=q
    rw [e2] at e
    cases e
    unfold Q7q at ho
    split at ho
    ·rename_i s hs'
     obtain ⟨p,ep⟩:=QcW (S.slot i s hs') (Q7h ho)
     refine ⟨.ref p,Wh ep,?_⟩
     exact qb Y F H δ σ A S r _ e2 _ fun y F2 H2 st2 S2 r2=>k _ F2 H2 st2 S2 ⟨Wh ep,r2⟩
    ·cases ho
  ·cases e
 ·unfold kIo at e
  split at e
  ·cases e2:fr δ with
   | none=>rw [e2] at e; cases e
   | some q =>
    rw [e2] at e
    cases e
    obtain ⟨h1,h2⟩:=hl _ q.1 q.2 e2
    exact ⟨by rw [Qh,h1],fun j hj=>by
     rcases Qg.mp hj with z | z
     ·subst z; exact Q7
     ·exact Q6 _ (h2 j z)⟩
  ·cases e
end
section
variable {X:Cx} {CX:CXT} {k:Nat} {f:Addr} {fd:FuncData} {ps:List Str} {sp:Sp} {E:XK} {x:Str} {p pos:Pos} {e:Expr} {es:List Expr} {t:TA}
theorem FnG.peT (Fn:FnG X.prog X.w X.K X.mg X.base CX k f fd ps sp) (hG:X.A.guards = some []) (hR:Room k X.A) (gl:Gl X x) (m:X.mg x = some (.ref f)) (kp:PySem.W.keepIn X.K (.ref f) = true) (hb:Binds X.K fd ps []) (hx:Passes CX X E)
  (ha:PAT X (e :: es) t) (db:(x == ("__debug__":Str)) = false) (h1:starEach (e :: es) X.env = (false,eval e X.env) :: starEach es X.env) (h2:(backTo pos (starEach es X.env)).any (·.1) = false) :
  PET X (.Call (.Name x p) (e :: es) [] pos) (tCall sp [] E t):=by
 intro pins s σ G Q h0 I h
 refine wpAny_Call_Name_kw (ld_glob I gl m ?_ db)
 refine PySem.W.callWith_K (h₀:=X.base) I.ok.mod.kin kp (thn (ha pos pins s σ G _ h0 I h) ?_) h1 h2
 rintro ws s1 ⟨us,G1,I1,r,q⟩
 refine ⟨I1.kIn,?_⟩
 rw [J4] at q
 have n:=Fn.len _ _ _ _ q
 have n2:(ws ++ []).length = ps.length:=by rw [J4,← r.length]; exact n
 have b:=hb s1 ws I1.kIn n2
 rw [J4] at b
 refine wpAny_call (codeAny_mono (Fn.run X.A X.stack s1 G1 ⟨ws,[]⟩ ws us Q E hG hR I1.env0 b r q) ?_)
 intro res s2 hq
 cases res with
 | error er=>exact hx pins σ G1 s1 er s2 I1 hq
 | ok fl =>
  cases fl with
  | ret u=>exact I1.after hq
  | next=>exact hq.elim
  | brk=>exact hq.elim
  | cont=>exact hq.elim
end
section
variable {X:Cx} {x:Str} {p pos:Pos} {e:Expr} {es:List Expr} {R M B:List Nat} {n:Nat} {φ:List Sl → Option (D × List Sl)} {f:List Sl → Option (List Ar × List Sl)}
theorem QiQ (kn:Kn X x n .n φ) (h:CVT X (e :: es) f R M n B) (h1:starEach (e :: es) X.env = (false,eval e X.env) :: starEach es X.env:=by rfl) (h2:(backTo pos (starEach es X.env)).any (·.1) = false:=by rfl):EVT X (.Call (.Name x p) (e :: es) [] pos) (Yh R true φ f) [] (M ++ B):=by
 obtain ⟨CX,k,a,fd,ps,Fn,hn,hR,hm,hk,hb,hx⟩:=kn.ex
 obtain ⟨⟨t,pa,q⟩,hf⟩:=h
 -- the same call,its arguments already told: what it means is ev_call's
 refine ⟨_,Fn.peT kn.gd hR kn.gl hm hk hb hx pa kn.db h1 h2,?_⟩
 intro Y F H δ σ A S z δ' e Q kk
 obtain ⟨as,δ1,outs,e1,ok,e2,oo,ef,rfl⟩:=Q4v e
 obtain ⟨hl,hB⟩:=hf _ _ _ e1
 refine q Y F H δ σ A S as δ1 e1 _ fun vs F1 H1 st S1 r=>?_
 show spF X.K ps.length .n φ (vs ++ []) H1 Q E0
 rw [J4]
 refine ⟨ex R A F1 H1,as.map (Q9h δ1),Q0X A as,by rw [Q4,hl,hn],S1.args ok r,z,outs,e2,fun v F2 H2 st2 S2 rv=>?_⟩
 rw [hn,← hl] at st2
 obtain ⟨st3,S3,sU⟩:=S1.behind ok r st2 S2 oo
 refine kk v _ H2 ((st.trans S1 st3).mono fun i hi=>?_) S3 (.inl ?_)
 ·rcases Qc.mp hi with z | z
  ·exact Q9 _ z
  ·exact Qd _ (hB i z)
 ·have rv:Rp X.K F2 v z:=rv
  rcases ef with ef | ef
  ·subst ef
   rw [Q3f]
   exact rv
  ·refine rv.flat (fun b xs h=>?_) ef
   rcases h with h | h
   ·refine .inl ?_
    have nb:¬ ∃ i ∈ R,b ∈ A i:=by
     rintro ⟨i,hi,m⟩
     have hb:∀ o,H1 b = some o → F2 b = some o:=fun o eo=>st2.f b o ((if_pos ⟨i,hi,m⟩:ex R A F1 H1 b = H1 b).trans eo)
     rcases S1.there m with ⟨ys,q⟩ | ⟨ys,q⟩ | ⟨_,ys,q⟩ | ⟨_,_,ys,q⟩ | ⟨ys,q⟩
     all_goals
      have:=hb _ q
      rcases h with h | ⟨o,h⟩ <;> rw [this] at h <;> cases h
    have q:Q4b R A F2 b = F2 b:=if_neg nb
    unfold Rd at h ⊢
    rw [q]
    exact h
   ·exact .inr h
end
section
variable {X:Cx} {io:Iom} {fr:Fr}
theorem Qhe {e:Expr} {f} {M:List Nat} {pos:Pos} (h:EVT X e f [] M):SVT X io .n (.Return (some e) pos) (Vp f):=by
 obtain ⟨t,p,q⟩:=h
 refine ⟨_,CwR.pst_ret p,fun Y F H δ σ A hY S o e D k=>?_⟩
 unfold Vp at e
 cases e1:f δ with
 | none=>rw [e1] at e; cases e
 | some p =>
  obtain ⟨d,δ1⟩:=p
  rw [e1] at e
  cases e
  exact q Y F H δ σ A S d δ1 e1 _ fun v F1 H1 st S1 r=>k v σ F1 H1 A st.f S1 r.nil
theorem QhB {st:Stmt} {g} (h:SVT X io fr st g):BVT X io fr [st] (Xu g Ym):=by
 obtain ⟨t,p,q⟩:=h
 refine ⟨_,psst_cons p CwR.psst_nil,fun Y F H δ σ A hY S o e D k=>?_⟩
 unfold Xu at e
 cases e1:g δ with
 | none=>rw [e1] at e; cases e
 | some o1 =>
  rw [e1] at e
  refine q Y F H δ σ A hY S o1 e1 _ ?_
  cases o1 with
  | nx δ1 =>
   cases e
   exact k
  | ct δ1=>cases e; exact k
  | rt d δ1=>cases e; exact k
def PEp (X:Cx) (e:Expr) (t:TE):Prop:=∀ (pins:List (Addr × Obj)) (s:Shared) (σ:L2.St) (H:Hp) (Q:VK),Inv X pins σ H s → t σ H Q → wpAny (model X.prog X.w) X.A (eval e X.env) (fun v s1=>1 ≤ s1.toks ∧ EP X pins σ Q v s1) X.xe s
def EVp (X:Cx) (e:Expr) (f:List Sl → Option (D × List Sl)) (R M:List Nat):Prop:=∃ t,PEp X e t ∧ SE X t f R M
theorem QiA {op:Operator} {r:R2} {g} {c:Str} {j:Nat} {cp:Pos} {b:Expr} {fb} {Rb Mb:List Nat} {pos:Pos} (ho:OpR X (binaryOp op) r) (hs:OpS X r g) (hb:EV X b fb Rb Mb):EVp X (.BinOp (.Constant (.str c) j cp) op b pos) (f2 g (Xp (.str c)) fb) [] Mb:=by
 obtain ⟨tb,pb,qb⟩:=hb
 have qa:SE X (tC (.str c)) (Xp (.str c)) [] []:=fun Y F H δ σ A S d δ' e Q k=>by
  cases e
  exact k _ _ _ Stp.refl S (.inl (.str _))
 refine ⟨tOp r (tC (.str c)) tb,fun pins s σ H Q I h=>?_,QhO hs qa qb fun i hi=>by cases hi⟩
 refine wpAny_BinOp (Calls.Constant_str ?_)
 refine wpAny_mono (PySem.wpAny_toks (pb.run pins { s with toks:=s.toks + 1 } σ H _ (I.tok _) h)) (fun u s2 q=>?_) fun _ _ z=>z.2
 obtain ⟨hk,y,H2,I2,r2,q2⟩:=q
 have hk:s.toks + 1 ≤ s2.toks:=hk
 exact wpAny_mono (PySem.wpAny_toks (ho pins s2 σ H2 (.str c) y (.str c s.toks) u Q I2 ⟨_,rfl⟩ r2 q2)) (fun v s3 q3=>⟨by have:=q3.1; omega,q3.2⟩) fun _ _ z=>z.2
theorem Qhd {a:Expr} {es:List Expr} {fa fr} {Ma Mr:List Nat} {pos:Pos} (ha:EVp X a fa [] Ma) (hr:AVT X es fr [] Mr) (hs:starEach (a :: es) X.env = (false,eval a X.env) :: starEach es X.env:=by rfl):EVp X (.List (a :: es) pos) (We (Xq fa fr)) [] (Ma ++ Mr):=by
 obtain ⟨ta,pa,qa⟩:=ha
 obtain ⟨tb,pb,qb⟩:=hr
 refine ⟨tLst (tCons ta tb),fun pins s σ H Q I h=>?_,QeG (Qdi qa qb fun i hi=>by cases hi)⟩
 refine wpAny_List_spliced ?_
 rw [hs]
 show wpAny _ _ (spliced ((false,eval a X.env) :: backTo pos (starEach es X.env))) _ _ s
 refine Calls.spliced_cons (wpAny_mono (pa pins s σ H _ I h) (fun v s1 q=>?_) fun _ _ z=>z)
 obtain ⟨hk,x,H1,I1,r1,q1⟩:=q
 refine wpAny_mono (PySem.wpAny_toks (pb pos pins s1 σ H1 _ hk I1 q1)) (fun us s2 q=>?_) fun _ _ z=>z.2
 obtain ⟨hk2,xs,H2,I2,r2,z,q2⟩:=q
 refine ⟨by rw [← Vals.length (.cons r1 r2)]; exact z,?_⟩
 have hf:H2 s2.heap.objs.size = none:=I2.hok.fresh (Jf _)
 refine ⟨by show 1 ≤ s2.toks; omega,.ref s2.heap.objs.size,upd H2 s2.heap.objs.size (.lst (x :: xs)),I2.laid (t':=s2.toks) (fun b u e=>Heap.get?_push_of_some _ e) (Jf _) ?_,rfl,q2 _ hf⟩
 exact ⟨z,v :: us,0,.cons r1 r2,Heap.get?_push_size _ rfl⟩
theorem QjK {i:Nat} {x:Str} {e:Expr} {f} {M:List Nat} {pos pos':Pos} {rest:List Stmt} {g'} (hio:io i = false) (T:Tg X i x) (h:EVp X e f [] M) (h2:BVT X io fr rest g') (hs:swapsWith e (some (.Name x pos')) pos.line X.env = pure false:=by rfl) :
  BV X io fr (.Assign [.Name x pos'] e pos :: rest) (Xu (Vs i f) g'):=by
 obtain ⟨t,p,q⟩:=h
 obtain ⟨t2,p2,q2⟩:=h2
 refine ⟨tSeq (tAsg t (gName i)) t2,⟨fun pins s σ H D I h=>?_⟩,fun Y F H δ σ A hY S o e D k=>?_⟩
 ·refine wpAny_execs_cons (wpAny_Assign_Name (wpAny_mono (p pins s σ H _ I h) (fun v s1 q=>?_) fun _ _ z=>z) hs)
  obtain ⟨hk,y,H1,I1,r1,q1⟩:=q
  refine wpAny_mono (PySem.wpAny_toks (store_ok (Q:=fun _ s2=>Inv X pins (σ.set i (some y)) H1 s2) I1 T.nd T.at_ T.loc r1 (fun _ I2=>I2) T.fn)) (fun _ s2 q=>?_) fun _ _ z=>z.2
  have hk2:s1.toks ≤ s2.toks:=q.1
  exact p2 pins s2 _ H1 D (by omega) q.2 q1
 ·unfold Xu Vs at e
  cases e1:f δ with
  | none=>rw [e1] at e; cases e
  | some w =>
   obtain ⟨d,δ1⟩:=w
   rw [e1] at e
   simp only [Q1] at e
   split at e
   ·rename_i hi
    refine q Y F H δ σ A S d δ1 e1 _ fun v F1 H1 st S1 r=>?_
    exact q2 Y F1 H1 _ _ _ hY (S1.putFz hi (by rw [hY]; exact hio) r.nil) o e D (k.mono st.f)
   ·cases e
end
end Z
namespace Z
open PySem PySem.Spec PyProof.Rows L2
def exD (c:Str):D:=.dict [(.none,.str c)]
def Q6u:D → Bool
 | .dict [(.none,.str _)]=>true
 | _=>false
def unX (g:List Sl → Option Ox):Fg:=fun δ=>(g δ).bind fun o=>match o with
 | .ex c δ1=>some (.rt (exD c) δ1)
 | .o (.rt d δ1)=>if Q6u d then none else some (.rt d δ1)
 | .o o=>some o
def Q7Y (g:Fg):Prop:=∀ δ d δ',g δ ≠ some (.rt d δ')
section
variable {g g' ga gb:Fg} {f fk fv fa fb fc:Fe} {fs:Fs} {i j l:Nat} {T:Tt} {G:List Sl → Bool} {c cc:Fb} {c1 s1:Str} {vs:List Nat}
theorem Q4S:Q7Y (Vs i f):=fun δ d δ' h=>by
 unfold Vs at h
 obtain ⟨p,_,h⟩:=Qt.mp h
 split at h <;> cases h
theorem Qjs:Q7Y (Q1c i f):=fun δ d δ' h=>by
 unfold Q1c at h
 obtain ⟨p,_,h⟩:=Qt.mp h
 split at h <;> cases h
theorem QeQ:Q7Y Ym:=fun δ d δ' h=>by cases h
theorem QiB (h:Q7Y g) (h':Q7Y g'):Q7Y (Xu g g'):=fun δ d δ' e=>by
 unfold Xu at e
 obtain ⟨o,e1,e2⟩:=Qt.mp e
 cases o with
 | nx δ1=>exact h' δ1 d δ' e2
 | ct δ1=>cases e2
 | rt d1 δ1=>exact h δ d1 δ1 e1
theorem Qk3 (h:Q7Y ga) (h':Q7Y gb):Q7Y (sIf cc ga gb):=fun δ d δ' e=>by
 unfold sIf at e
 obtain ⟨⟨b,δ1⟩,e1,e2⟩:=Qt.mp e
 cases b with
 | true=>exact h δ1 d δ' e2
 | false=>exact h' δ1 d δ' e2
end
section
variable {α β γ ε ρ:Type} {as:List Sl → Option (List Sl)} {δ δ1:List Sl} {g0:Fg} {g g' g1 g2 g3 ga gb:List Sl → Option Ox} {o oa ob:Option β} {r:β → Oc} {cc:Fb} {s:Bool} {i:Nat} {vs:List Nat} {c:Str}
theorem Qa8 (nr:Q7Y g0) (h:SB as (Xu g0 (unX g')) δ o r):SB as (unX (Yk (xS g0) g')) δ o r:=fun v hv=>by
 have e:unX (Yk (xS g0) g') δ = Xu g0 (unX g') δ:=by
  unfold unX Yk xS Xu
  cases e:g0 δ with
  | none=>rfl
  | some o =>
   cases o with
   | nx δ1=>rfl
   | ct δ1=>rfl
   | rt d δ1=>exact absurd e (nr _ _ _)
 rw [e]
 exact h v hv
theorem Q0N (h:SB as (unX (Yk g1 (Yk g2 g3))) δ o r):SB as (unX (Yk (Yk g1 g2) g3)) δ o r:=fun v hv=>by
 have e:Yk (Yk g1 g2) g3 δ = Yk g1 (Yk g2 g3) δ:=by
  unfold Yk
  cases g1 δ with
  | none=>rfl
  | some o =>
   cases o with
   | ex c δ1=>rfl
   | o o =>
    cases o with
    | nx δ1=>rfl
    | ct δ1=>rfl
    | rt d δ1=>rfl
 have e2:unX (Yk (Yk g1 g2) g3) δ = unX (Yk g1 (Yk g2 g3)) δ:=by unfold unX; rw [e]
 rw [e2]
 exact h v hv
theorem Q1M (h:SB as (unX g') δ o r):SB as (unX (Yk (xS Ym) g')) δ o r:=h
theorem QhR (hc:TP cc δ s) (ha:SB as (unX (Yk ga g')) δ oa r) (hb:SB as (unX (Yk gb g')) δ ob r):SB as (unX (Yk (Q48 cc ga gb) g')) δ (if s then oa else ob) r:=fun v hv=>by
 have e:unX (Yk (Q48 cc ga gb) g') δ = if s then unX (Yk ga g') δ else unX (Yk gb g') δ:=by
  unfold unX Yk Q48
  rw [show cc δ = some (s,δ) from hc]
  cases s <;> rfl
 rw [e]
 cases s
 ·exact hb v hv
 ·exact ha v hv
theorem Q5T {oc:Option α} {rc:α → Bool × List Sl} {bb:α → Bool} {oa ob:α → Option β} (hc:TN cc δ oc rc) (hb:∀ x,(rc x).1 = bb x) (ha:∀ x,SB as (unX (Yk ga g')) (rc x).2 (oa x) r) (hb2:∀ x,SB as (unX (Yk gb g')) (rc x).2 (ob x) r):SB as (unX (Yk (Q48 cc ga gb) g')) δ (oc.bind fun x=>if bb x then oa x else ob x) r:=fun v hv=>by
 obtain ⟨x,hx,hv⟩:=V5 hv
 have e:unX (Yk (Q48 cc ga gb) g') δ = if bb x then unX (Yk ga g') (rc x).2 else unX (Yk gb g') (rc x).2:=by
  unfold unX Yk Q48
  rw [hc x hx]
  show Option.bind (Option.bind (match (rc x).1 with | true=>ga (rc x).2 | false=>gb (rc x).2) _) _ = _
  rw [hb x]
  cases bb x <;> rfl
 rw [e]
 cases hq:bb x with
 | true=>rw [hq] at hv; exact ha x v hv
 | false=>rw [hq] at hv; exact hb2 x v hv
theorem Qdp {v:β} (h:r v = .nx (Vo vs δ)):SB as (unX (xS (Q08 vs))) δ (some v) r:=fun w hw=>by cases hw; rw [h]; rfl
theorem Q2h {v:β} {outs:List Sl} (hr:r v = .rt (exD c) outs) (hm:as δ = some outs:=by rfl):SB as (unX (Yk (Q36 c) g')) δ (some v) r:=fun w hw=>by
 cases hw
 rw [hr]
 exact ⟨δ,rfl,hm⟩
theorem QbF {f:Fe} {d:D} {v:β} {outs:List Sl} (h:VP f δ d) (hr:r v = .rt d outs) (hm:as δ = some outs:=by rfl) (hd:Q6u d = false:=by rfl):SB as (unX (Yk (xR (Vp f)) g')) δ (some v) r:=fun w hw=>by
 cases hw
 rw [hr]
 refine ⟨δ,?_,hm⟩
 unfold unX Yk xR Vp
 rw [show f δ = some (d,δ) from h]
 show (if Q6u d then none else some (Out.rt d δ)) = _
 rw [hd]
 rfl
theorem Q9Y {f:Fe} {oe:Option α} {re:α → D × List Sl} {v:α → β} {outs:α → List Sl} (h:VN f δ oe re) (hr:∀ x,r (v x) = .rt (re x).1 (outs x)) (hm:∀ x,as (re x).2 = some (outs x):=by intro _; rfl) (hd:∀ x,Q6u (re x).1 = false:=by intro _; rfl):SB as (unX (Yk (xR (Vp f)) g')) δ (oe.bind fun x=>some (v x)) r:=fun w hw=>by
 obtain ⟨x,hx,hw⟩:=V5 hw
 cases hw
 rw [hr]
 refine ⟨(re x).2,?_,hm x⟩
 unfold unX Yk xR Vp
 rw [h x hx]
 show (if Q6u (re x).1 then none else some (Out.rt (re x).1 (re x).2)) = _
 rw [hd x]
 rfl
def VX {α:Type} (f:List Sl → Option (Rs × List Sl)) (δ:List Sl) (o:Option α) (r:α → Rs × List Sl):Prop:=∀ a,o = some a → f δ = some (r a)
def eX (c:ε → Str) (δe:ε → List Sl) (d:ρ → D) (δk:ρ → List Sl):ε ⊕ ρ → Rs × List Sl:=X2 (fun e=>(.ex (c e),δe e)) (fun y=>(.ok (d y),δk y))
variable {f:List Sl → Option (Rs × List Sl)} {q:Option (ε ⊕ ρ)} {ce:ε → Str} {δe:ε → List Sl} {d:ρ → D} {δk:ρ → List Sl} {w:ε → β} {ok:ρ → Option β} {oute:ε → List Sl}
theorem QjT (h:VX f δ q (eX ce δe d δk)) (hr:∀ e,r (w e) = .rt (exD (ce e)) (oute e)) (k:∀ y,SB as (unX g') (δk y) (ok y) r) (hm:∀ e,as (δe e) = some (oute e):=by intro _; rfl):SB as (unX (Yk (Q7y f) g')) δ (q.bind (X2 (fun e=>some (w e)) ok)) r:=fun v hv=>by
 obtain ⟨x,hx,hv⟩:=V5 hv
 have e:=h x hx
 cases x with
 | inl x =>
  cases hv
  rw [hr]
  refine ⟨δe x,?_,hm x⟩
  unfold unX Yk Q7y
  rw [e]
  rfl
 | inr y =>
  have e2:unX (Yk (Q7y f) g') δ = unX g' (δk y):=by
   unfold unX Yk Q7y
   rw [e]
   rfl
  rw [e2]
  exact k y v hv
theorem Qjn (h:VX f δ q (eX ce δe d δk)) (hr:∀ e,r (w e) = .rt (exD (ce e)) (oute e)) (k:∀ y,SB as (unX g') ((δk y).set i (.fz (d y))) (ok y) r) (hm:∀ e,as (δe e) = some (oute e):=by intro _; rfl) (hi:∀ y,decide (i < (δk y).length) = true:=by intro _; rfl):SB as (unX (Yk (Q77 i f) g')) δ (q.bind (X2 (fun e=>some (w e)) ok)) r:=fun v hv=>by
 obtain ⟨x,hx,hv⟩:=V5 hv
 have e:=h x hx
 cases x with
 | inl x =>
  cases hv
  rw [hr]
  refine ⟨δe x,?_,hm x⟩
  unfold unX Yk Q77
  rw [e]
  rfl
 | inr y =>
  have e2:unX (Yk (Q77 i f) g') δ = unX g' ((δk y).set i (.fz (d y))):=by
   unfold unX Yk Q77
   rw [e]
   show Option.bind (Option.bind (if i < (δk y).length then some (Ox.o (.nx ((δk y).set i (.fz (d y))))) else none) _) _ = _
   rw [if_pos (of_decide_eq_true (hi y))]
   rfl
  rw [e2]
  exact k y v hv
end
section
variable {β ε ρ:Type} {sg vls:List Bool} {n t:Nat} {vl:List Nat} {fr:FrO} {g:List Sl → Option Ox} {as:List Sl} {o:Option β} {dv:β → D} {outs st:β → List Sl}
theorem QeM {δ δ':List Sl} {d:D} (h:unX g δ = some (.rt d δ')) (hd:Q6u d = false):g δ = some (.o (.rt d δ')):=by
 unfold unX at h
 obtain ⟨x,e,h⟩:=Qt.mp h
 rw [e]
 cases x with
 | ex c δ1=>cases h; cases hd
 | o o =>
  cases o with
  | nx δ1=>cases h
  | ct δ1=>cases h
  | rt d1 δ1 =>
   simp only at h
   split at h
   ·cases h
   ·cases h; rfl
theorem Qf1 {δ δ':List Sl} {c:Str} (h:unX g δ = some (.rt (exD c) δ')):g δ = some (.ex c δ'):=by
 unfold unX at h
 obtain ⟨x,e,h⟩:=Qt.mp h
 rw [e]
 cases x with
 | ex c δ1=>cases h; rfl
 | o o =>
  cases o with
  | nx δ1=>cases h
  | ct δ1=>cases h
  | rt d1 δ1 =>
   simp only at h
   split at h
   ·cases h
   ·rename_i z; cases h; exact absurd rfl z
theorem Qfz {δ δ':List Sl} (h:unX g δ = some (.nx δ')):g δ = some (.o (.nx δ')):=by
 unfold unX at h
 obtain ⟨x,e,h⟩:=Qt.mp h
 rw [e]
 cases x with
 | ex c δ1=>cases h
 | o o =>
  cases o with
  | nx δ1=>cases h; rfl
  | ct δ1=>cases h
  | rt d1 δ1 =>
   simp only at h
   split at h <;> cases h
theorem Qfa {δ' out:List Sl} {d:D} (h:g (as ++ Q3O sg.length t vl) = some (.o (.rt d δ'))) (hm:Q7T n as δ' = some out) (ha:okX sg n as = true):fnX sg n t vl fr g as = some (.ok d,out):=by
 unfold fnX
 rw [if_pos ha,h]
 show (Q7T n as δ').map _ = _
 rw [hm]
 rfl
theorem Qjz {δ' out:List Sl} {c:Str} (h:g (as ++ Q3O sg.length t vl) = some (.ex c δ')) (hm:Q7T n as δ' = some out) (ha:okX sg n as = true):fnX sg n t vl fr g as = some (.ex c,out):=by
 unfold fnX
 rw [if_pos ha,h]
 show (Q7T n as δ').map _ = _
 rw [hm]
 rfl
theorem fx_n (h:SB (Q7T n as) (unX g) (as ++ Q3O sg.length t vl) o (fun v=>.rt (dv v) (outs v))) (hd:∀ v,Q6u (dv v) = false:=by intro _; rfl) (ha:okX sg n as = true:=by rfl):∀ v,o = some v → fnX sg n t vl fr g as = some (.ok (dv v),outs v):=fun v hv=>by
 obtain ⟨δ',h1,h2⟩:=h v hv
 exact Qfa (QeM h1 (hd v)) h2 ha
variable {q:Option (ε ⊕ ρ)} {ce:ε → Str} {oute:ε → List Sl} {d:ρ → D} {out st2:ρ → List Sl}
theorem QiD (h:SB (Q7T n as) (unX g) (as ++ Q3O sg.length t vl) q (X2 (fun e=>.rt (exD (ce e)) (oute e)) (fun v=>.rt (d v) (out v)))) (hd:∀ v,Q6u (d v) = false:=by intro _; rfl) (ha:okX sg n as = true:=by rfl):∀ v,q = some v → fnX sg n t vl fr g as = some (eX ce oute d out v):=fun v hv=>by
 have e:=h v hv
 cases v with
 | inl x =>
  obtain ⟨δ',h1,h2⟩:=e
  exact Qjz (Qf1 h1) h2 ha
 | inr y =>
  obtain ⟨δ',h1,h2⟩:=e
  exact Qfa (QeM h1 (hd y)) h2 ha
end
end Z
namespace Z
open PySem PySem.Spec PyProof.Rows L2
abbrev Fa_:=List Sl → Option (Ra × List Sl)
section
variable {α β γ ε ρ ε':Type} {f:Fe} {G:List Sl → Bool} {δ δ1:List Sl} {d:D} {o:Option α} {re:α → D × List Sl}
def XP (f:Fa_) (δ:List Sl) (as:List Ar):Prop:=f δ = some (.as as,δ)
def XN {α:Type} (f:Fa_) (δ:List Sl) (o:Option α) (r:α → List Ar × List Sl):Prop:=∀ a,o = some a → f δ = some (.as (r a).1,(r a).2)
variable {fr:Fa_} {as:List Ar} {i:Nat} {c:Str} {fs:List (Str × Nat)} {rn:α → List Ar × List Sl}
theorem Q3e:XP (xAs V2) δ []:=rfl
theorem Q2D (h:VP f δ d) (h2:XP fr δ as):XP (Q1q (xOk f) fr) δ (.d d :: as):=by
 unfold XP Q1q xOk
 rw [show f δ = some (d,δ) from h]
 show (fr δ).map _ = _
 rw [show fr δ = some (.as as,δ) from h2]
 rfl
theorem Qk5 {as:α → List Ar} (h:VN f δ o re) (h2:∀ x,XP fr (re x).2 (as x)):XN (Q1q (xOk f) fr) δ o (fun x=>(.d (re x).1 :: as x,(re x).2)):=fun a ha=>by
 unfold Q1q xOk
 rw [h a ha]
 show (fr (re a).2).map _ = _
 rw [show fr (re a).2 = some (.as (as a),(re a).2) from h2 a]
 rfl
variable {fx:List Sl → Option (Rs × List Sl)} {q:Option (ε ⊕ ρ)} {ce:ε → Str} {δe:ε → List Sl} {dk:ρ → D} {δk:ρ → List Sl} {ak:ρ → List Ar}
variable {js:List Nat} {φ:List Sl → Option (Rs × List Sl)} {ce':ε' → Str} {oe:ε → List Sl} {dv:ρ → D} {outs:ρ → List Sl}
theorem Q53 {δ2 outs:List Sl} {r:Rs} (h:fr δ = some (.as as,δ2)) (hφ:φ (asX js as δ2) = some (r,outs)) (ok:(Q2X js as δ2 && Q6H js as 0 δ2) = true) (ho:Q0Y js as δ2 outs = true):Q0P js φ fr δ = some (r,Q1s js as outs δ2):=by
 unfold Q0P
 rw [h]
 show (if Q2X js as δ2 && Q6H js as 0 δ2 then _ else _) = _
 rw [if_pos ok,hφ]
 show (if Q0Y js as δ2 outs then _ else _) = _
 rw [if_pos ho]
theorem Qaj {dv:β → D} {outs:β → List Sl} {q:Option β} (h:XP fr δ as) (hφ:∀ v,q = some v → φ (asX js as δ) = some (.ok (dv v),outs v)) (ok:(Q2X js as δ && Q6H js as 0 δ) = true:=by rfl) (ho:∀ v,Q0Y js as δ (outs v) = true:=by intro _; rfl):VN (okR (Q0P js φ fr)) δ q (fun v=>(dv v,Q1s js as (outs v) δ)):=fun v hv=>by
 unfold okR
 rw [Q53 h (hφ v hv) ok (ho v)]
 rfl
theorem QjR {dv:α → β → D} {outs:α → β → List Sl} {q:α → Option β} (h:XN fr δ o rn) (hφ:∀ x v,q x = some v → φ (asX js (rn x).1 (rn x).2) = some (.ok (dv x v),outs x v)) (ok:∀ x,(Q2X js (rn x).1 (rn x).2 && Q6H js (rn x).1 0 (rn x).2) = true:=by intro _; rfl) (ho:∀ x v,Q0Y js (rn x).1 (rn x).2 (outs x v) = true:=by intro _ _; rfl):VN (okR (Q0P js φ fr)) δ (o.bind fun x=>(q x).map fun v=>(x,v)) (fun p=>(dv p.1 p.2,Q1s js (rn p.1).1 (outs p.1 p.2) (rn p.1).2)):=fun p hp=>by
 obtain ⟨x,hx,hp⟩:=V5 hp
 obtain ⟨v,hv,rfl⟩:=Zw hp
 unfold okR
 rw [Q53 (h x hx) (hφ x v hv) (ok x) (ho x v)]
 rfl
theorem QcE (h:XP fr δ as) (hφ:∀ v,q = some v → φ (asX js as δ) = some (eX ce oe dv outs v)) (ok:(Q2X js as δ && Q6H js as 0 δ) = true:=by rfl) (hoe:∀ e,Q0Y js as δ (oe e) = true:=by intro _; rfl) (ho:∀ v,Q0Y js as δ (outs v) = true:=by intro _; rfl):VX (Q0P js φ fr) δ q (eX ce (fun e=>Q1s js as (oe e) δ) dv (fun v=>Q1s js as (outs v) δ)):=fun v hv=>by
 have e:=hφ v hv
 cases v with
 | inl x=>exact Q53 h e ok (hoe x)
 | inr y=>exact Q53 h e ok (ho y)
variable {am:List Sl → Option (List Sl)} {g':List Sl → Option Ox} {r:β → Oc}
end
end Z
namespace Z
open PySem PySem.Spec PyProof.Rows L2


end Z
namespace Z
open PySem PySem.Spec PyProof.Rows L2

theorem QkC {fr:Fa_} {δ:List Sl} {γ:Type} {o:Option γ} {rn:γ → List Ar × List Sl} {asl:γ → List Ar} {st:γ → List Sl} (h:XN fr δ o rn) (e:∀ x,rn x = (asl x,st x):=by intro _; rfl):XN fr δ o (fun x=>(asl x,st x)):=fun a ha=>by rw [h a ha,e a]


section
variable {α β ε ρ σ τ:Type} {as:List Sl → Option (List Sl)} {δ:List Sl} {r:β → Oc} {g0:Fg} {gb g' gs0:List Sl → Option Ox} {o:Option β}
variable {ns:List Str} {dc:Str} {i:Nat} {qb:Option (ε ⊕ ρ)} {ce:ε → Str} {se:ε → List Sl} {sk:ρ → List Sl}
open Classical in
theorem QgN {x:Option Out} {d:D} {outs:List Sl} (h:OcR some x (.rt d outs)):x = some (.rt d outs):=by
 obtain ⟨δ',h1,h2⟩:=h
 cases h2
 exact h1
open Classical in
theorem Qen {gs:Str → Addr → List Sl → Option Ox} {os:ε → Option σ} {st:σ → List Sl} {ok:σ → Option β} {qs:Option (ε ⊕ σ)}
  (hb:SB some (unX gb) δ qs (X2 (fun e=>.rt (exD (ce e)) (se e)) (fun y=>.nx (st y))))
  (hs:∀ e a,SB some (unX (gs (ce e) a)) ((se e).set i (.xv a)) (os e) (fun v=>.nx ((st v).set i (.xv a))))
  (k:∀ s,SB as (unX g') (st s) (ok s) r)
  (hj:∀ v a,((st v).set i (.xv a)).set i .no = st v:=by intro _ _; rfl) (hi:∀ e,decide (i < (se e).length) = true:=by intro _; rfl) :
  SB as (unX (Yk (Q3J ns dc i gb gs) g')) δ ((qs.bind (X2 (fun e=>if ns.contains (ce e) && Q29 (ce e) dc then os e else none) some)).bind ok) r:=fun v hv=>by
 obtain ⟨s,hs',hv⟩:=V5 hv
 obtain ⟨x,hx,hs'⟩:=V5 hs'
 have fin:Q3J ns dc i gb gs δ = some (.o (.nx (st s))):=by
  cases x with
  | inr y =>
   have e1:gb δ = some (.o (.nx (st y))):=Qfz (hb (.inr y) hx)
   have hs2:y = s:=Ja.inj hs'
   unfold Q3J
   rw [e1,hs2]
   rfl
  | inl e =>
   have e1:gb δ = some (.ex (ce e) (se e)):=Qf1 (QgN (hb (.inl e) hx))
   have hs':(if ns.contains (ce e) && Q29 (ce e) dc then os e else none) = some s:=hs'
   split at hs'
   case isFalse=>cases hs'
   rename_i hc
   rw [Q5] at hc
   have all:∀ a,(gs (ce e) a ((se e).set i (.xv a))).map (wOx i) = some (.o (.nx (st s))):=fun a=>by
    have e2:gs (ce e) a ((se e).set i (.xv a)) = some (.o (.nx ((st s).set i (.xv a)))):=Qfz (hs e a s hs')
    rw [e2]
    show some (Ox.o (.nx (((st s).set i (.xv a)).set i .no))) = _
    rw [hj s a]
   have hex:∃ r,QhG r = false ∧ ∀ a,(gs (ce e) a ((se e).set i (.xv a))).map (wOx i) = some r:=⟨_,rfl,all⟩
   unfold Q3J
   rw [e1,Q1]
   show (if ns.contains (ce e) then if Q29 (ce e) dc then if i < (se e).length then if h:∃ r,QhG r = false ∧ ∀ a,(gs (ce e) a ((se e).set i (.xv a))).map (wOx i) = some r then some h.choose else none else none else some (.ex (ce e) (se e)) else none) = _
   rw [if_pos hc.1,if_pos hc.2,if_pos (of_decide_eq_true (hi e)),dif_pos hex]
   have a0:Addr:=0
   exact ((hex.choose_spec.2 a0).symm.trans (all a0))
 have e:unX (Yk (Q3J ns dc i gb gs) g') δ = unX g' (st s):=by
  unfold unX Yk
  rw [fin]
  rfl
 rw [e]
 exact k s v hv
end

end Z
namespace Z
open PySem PySem.Spec PyProof.Rows L2
section
variable {α β κ:Type} {e:β → D} {e':κ → D} {d:α → D}
def okQ {ε ρ:Type} (q:Option (ε ⊕ ρ)):Option ρ:=q.bind (X2 (fun _=>none) some)
theorem Qhz {ε ρ:Type} {q:Option (ε ⊕ ρ)} {o:Option (Rs × List Sl)} {ce:ε → Str} {oe:ε → List Sl} {dv:ρ → D} {outs:ρ → List Sl} (h:∀ v,q = some v → o = some (eX ce oe dv outs v)):∀ v,okQ q = some v → o = some (.ok (dv v),outs v):=fun v hv=>by
 unfold okQ at hv
 obtain ⟨x,hx,hv⟩:=Qt.mp hv
 cases x with
 | inl e=>cases hv
 | inr y=>cases hv; exact h _ hx
end
end Z
namespace Z
open PySem PySem.Spec PyProof.Rows L2

end Z
namespace Z
open PySem PySem.Spec PyProof.Rows L2

end Z
namespace Z
open PySem PySem.Spec PyProof.Rows L2
end Z
namespace Z
open PySem PySem.Spec PyProof.Rows L2

end Z
namespace Z
open PySem PySem.Spec PyProof.Rows L2

end Z
namespace Z
open PySem PySem.Spec PyProof.Rows L2
end Z
namespace Z
open PySem PySem.Spec PyProof.Rows L2

end Z
namespace Z
open PySem PySem.Spec PyProof.Rows L2
end Z
namespace Z
open PySem PySem.Spec PyProof.Rows L2
end Z
namespace Z
open PySem PySem.Spec PyProof.Rows L2
end Z
namespace Z
open PySem PySem.Spec PyProof.Rows L2

end Z
namespace Z
open PySem PySem.Spec PyProof.Rows L2
end Z
namespace Z
open PySem PySem.Spec PyProof.Rows L2

end Z
namespace Z
open PySem PySem.Spec PyProof.Rows L2

end Z
namespace Z
open PySem PySem.Spec PyProof.Rows L2
end Z
namespace Z
open PySem PySem.Spec PyProof.Rows L2
end Z
namespace Z
open PySem PySem.Spec PyProof.Rows L2

end Z
namespace Z
open PySem PySem.Spec PyProof.Rows L2



end Z
namespace Z
open PySem PySem.Spec PyProof.Rows L2
end Z
namespace Z
open PySem PySem.Spec PyProof.Rows L2
end Z
namespace Z
open PySem PySem.Spec PyProof.Rows L2
def Q1V (a:Str) (ys:List Str):Option Str:=if (ys.map (·.length)).sum + ys.length * a.length ≤ 16777216 then some (Txt.join a ys) else none
theorem Q8W:∀ ys:List Str,(ys.map Q3).mapM Qh5 = some ys
 | []=>rfl
 | y :: r=>by
  rw [Qq,List.mapM_cons,Q8W r]
  rfl
theorem Q20 (a:Str) (ys:List Str) (v:Str) (h:Q1V a ys = some v):Q1z (.str a) (eLi Q3 ys) = some (.str v):=by
 show (((ys.map Q3).mapM Qh5).bind _) = _
 rw [Q8W,Q1]
 unfold Q1V at h
 split at h
 ·rename_i c
  cases h
  exact if_pos c
 ·cases h
def Q0U (a b:Str):Option (List Str):=if (b.length == 0) = false ∧ a.length + 2 ≤ sizeLine then some (Txt.split a b) else none
theorem Q5R (a b:Str) (v:List Str) (h:Q0U a b = some v):Q9a (.str a) (.str b) = some (eLi Q3 v):=by
 unfold Q0U at h
 split at h
 ·rename_i c
  cases h
  exact if_pos c
 ·cases h
def Q0t (a:Str):Option Int:=if a.length ≤ 640 then PySem.intText? a else none
theorem Qdl (a:Str) (v:Int) (h:Q0t a = some v):g1 QaI [.str a] = some (.int v):=by
 unfold Q0t at h
 split at h
 ·rename_i c
  show (if a.length ≤ 640 then (PySem.intText? a).map Q0 else none) = _
  rw [if_pos c,h]
  rfl
 ·cases h
theorem rawS (o:Option D) (v:Str) (h:o.bind asS = some v):o = some (.str v):=by
 obtain ⟨d,h1,h2⟩:=V5 h
 rw [h1]
 unfold asS at h2
 split at h2
 ·cases h2
  rfl
 ·cases h2
def QbC {α:Type} (xs:List α):Option (α × α):=match xs with
 | [a,b]=>some (a,b)
 | _=>none
theorem Qbx {α' τ' ε':Type} {T:Tt} {f:Fe} {δ:List Sl} {g':List Sl → Option Out} {oe:Option α'} {re:α' → D × List Sl} {ee:τ' → D} {xs:α' → List τ'} {δx:α' → τ' × τ' → List Sl} {ok:α' → τ' × τ' → Option ε'} {as} {r} (h:VN f δ oe re) (hr:∀ x,(re x).1 = eLi ee (xs x)) (hb:∀ x t,Vy T [ee t.1,ee t.2] (re x).2 = some (δx x t)) (k:∀ x t,SB as g' (δx x t) (ok x t) r):SB as (Xu (Q5v T f) g') δ (oe.bind fun x=>(QbC (xs x)).bind fun t=>ok x t) r:=fun v hv=>by
 obtain ⟨x,hx,hv⟩:=V5 hv
 obtain ⟨t,ht,hv⟩:=V5 hv
 rw [Wv (δ1:=δx x t)]
 ·exact k x t v hv
 ·unfold Q5v
  have e1:=hr x
  have hb':=hb x t
  rw [h x hx,Q1]
  generalize re x = w at e1 hb'
  obtain ⟨d,δ1⟩:=w
  dsimp only at e1 hb' ⊢
  subst e1
  unfold QbC at ht
  split at ht
  ·rename_i a b e2
   cases ht
   rw [e2]
   show (Vy T [ee a,ee b] δ1).map Out.nx = _
   rw [hb']
   rfl
  ·cases ht
end Z
namespace Z
open PySem PySem.Spec PyProof.Rows L2

end Z
namespace Z
open PySem PySem.Spec PyProof.Rows L2
def Q7G {ι ε τ:Type} (f:ι → Option (ε ⊕ τ)):List ι → Option (ε ⊕ List τ)
 | []=>some (.inr [])
 | x :: r=>(f x).bind (X2 (fun e=>some (.inl e)) fun y=>(Q7G f r).map (Sum.map (fun e=>e) fun ys=>y :: ys))
section
variable {ι ε τ ρ α:Type} {T:Tt} {vs:List Nat} {fe:List Sl → Option (Rs × List Sl)} {fi:Fs} {δ:List Sl} {q:ι → Option (ε ⊕ τ)} {ce:ε → Str} {e:ι → D} {e':τ → D} {δb:ι → List Sl} {xs:List ι}
def rlX (ce:ε → Str) (e':τ → D):ε ⊕ List τ → Rl:=X2 (fun e=>.ex (ce e)) fun ys=>.ok (ys.map e')
theorem Qbe (hT:∀ x,Vu T (e x) δ = some (δb x)) (hf:∀ x,VX fe (δb x) (q x) (eX ce (fun _=>δb x) e' (fun _=>δb x))) (hw:∀ x,Vo vs (δb x) = δ):∀ (xs:List ι) (z:ε ⊕ List τ),Q7G q xs = some z → Q1t T vs Q0C fe (xs.map e) δ = some (rlX ce e' z,δ)
 | [],z,h=>by cases h; rfl
 | x :: xs,z,h=>by
  unfold Q7G at h
  obtain ⟨y,hy,h⟩:=V5 h
  rw [Qq]
  unfold Q1t
  rw [hT x,Q1]
  show (fe (δb x)).bind _ = _
  rw [hf x y hy]
  cases y with
  | inl c =>
   cases h
   show some (Rl.ex (ce c),Vo vs (δb x)) = _
   rw [hw x]
   rfl
  | inr y =>
   obtain ⟨w,h2,rfl⟩:=Zw h
   have ih:=Qbe hT hf hw xs w h2
   show (Q1t T vs Q0C fe (xs.map e) (Vo vs (δb x))).map _ = _
   rw [hw x,ih]
   cases w <;> rfl
theorem Qfq (hi:AP fi δ (xs.map e)) (hT:∀ x,Vu T (e x) δ = some (δb x)) (hf:∀ x,VX fe (δb x) (q x) (eX ce (fun _=>δb x) e' (fun _=>δb x))) (hw:∀ x,Vo vs (δb x) = δ:=by intro _; rfl) (hn:noS vs δ = true:=by rfl) :
  VX (Q5a T vs fi Q0C fe) δ (K5 xs (Q7G q xs)) (eX ce (fun _=>δ) (fun ys=>eLi e' ys) (fun _=>δ)):=fun z hz=>by
 unfold K5 at hz
 split at hz
 ·rename_i c
  have w:=Qbe hT hf hw xs z hz
  unfold Q5a
  rw [show fi δ = some (xs.map e,δ) from hi,Q1]
  dsimp only
  rw [hn,decide_eq_true (by rw [Q4]; exact c),Bool.and_self,if_pos rfl,w]
  cases z <;> rfl
 ·cases hz
theorem QeA {r:α → List D × List Sl} {o:Option α} {q':α → Option (Str ⊕ List τ)} (hi:AN fi δ o r) (h:∀ x,VX (Q5a T vs (fun δ=>some ((r x).1,δ)) Q0C fe) (r x).2 (q' x) (eX (fun c=>c) (fun _=>(r x).2) (fun ys=>eLi e' ys) (fun _=>(r x).2))) :
  VX (Q5a T vs fi Q0C fe) δ (o.bind fun x=>(q' x).map (Sum.map (fun e=>(x,e)) (fun y=>(x,y)))) (eX (fun p=>p.2) (fun p=>(r p.1).2) (fun p=>eLi e' p.2) (fun p=>(r p.1).2)):=fun p hp=>by
 obtain ⟨x,hx,hp⟩:=V5 hp
 obtain ⟨v,hv,rfl⟩:=Zw hp
 have w:=h x v hv
 unfold Q5a at w ⊢
 rw [hi x hx,Q1]
 rw [Q1] at w
 refine Eq.trans w ?_
 cases v <;> rfl
theorem QiM {f:List Sl → Option (Rs × List Sl)} {q:Option (ε ⊕ ρ)} {δe:ε → List Sl} {d:ρ → D} {δk:ρ → List Sl} {δ0:List Sl} (h:VX f δ q (eX ce δe d δk)) (u:ρ → τ) (hd:∀ y,d y = e' (u y):=by intro _; rfl) (h1:∀ c,δe c = δ0:=by intro _; rfl) (h2:∀ y,δk y = δ0:=by intro _; rfl) :
  VX f δ (q.map (Sum.map ce u)) (eX (fun c=>c) (fun _=>δ0) e' (fun _=>δ0)):=fun z hz=>by
 obtain ⟨v,hv,rfl⟩:=Zw hz
 rw [h v hv]
 cases v with
 | inl c=>show some (Rs.ex (ce c),δe c) = _; rw [h1 c]; rfl
 | inr y=>show some (Rs.ok (d y),δk y) = _; rw [hd y,h2 y]; rfl
theorem Qj1 {f:List Sl → Option (Rs × List Sl)} {q:Option (ε ⊕ τ)} {δe:ε → List Sl} {d:τ → D} {δk:τ → List Sl} {δ0:List Sl} (h:VX f δ q (eX ce δe d δk)) (hd:∀ y,d y = e' y:=by intro _; rfl) (h1:∀ c,δe c = δ0:=by intro _; rfl) (h2:∀ y,δk y = δ0:=by intro _; rfl) :
  VX f δ q (eX ce (fun _=>δ0) e' (fun _=>δ0)):=fun z hz=>by
 rw [h z hz]
 cases z with
 | inl c=>show some (Rs.ex (ce c),δe c) = _; rw [h1 c]; rfl
 | inr y=>show some (Rs.ok (d y),δk y) = _; rw [hd y,h2 y]; rfl
end
theorem QgD {T:Tt} {f:Fe}:Q7Y (Q5v T f):=fun δ d δ' h=>by
 unfold Q5v at h
 obtain ⟨p,_,h⟩:=Qt.mp h
 split at h
 ·obtain ⟨q,_,h⟩:=Ql.mp h
  cases h
 ·cases h
end Z
namespace Z
open PySem PySem.Spec PyProof.Rows L2

end Z
namespace Z
open PySem PySem.Spec PyProof.Rows L2
def Ku (a:Str) (k:Int):Option Str:=if decide (0 ≤ k) && decide (k ≤ 1000000) && decide (a.length * k.toNat ≤ 1000000) then some (Txt.mul a k) else none
theorem Q11 (a:Str) (k:Int) (v:Str) (h:Ku a k = some v):Q2U (.str a) (.int k) = some (.str v):=by
 unfold Ku at h
 split at h
 ·rename_i c
  cases h
  exact if_pos c
 ·cases h
def Q6B (y z x:Str):Option Str:=if x.length + (x.length + 1) * z.length ≤ 16777216 then some (Txt.replace x y z) else none
theorem QcV (y z x:Str) (v:Str) (h:Q6B y z x = some v):Qao y z (.str x) = some (.str v):=by
 unfold Q6B at h
 split at h
 ·rename_i c
  cases h
  exact if_pos c
 ·cases h
end Z
namespace Z
open PySem PySem.Spec PyProof.Rows L2
def Wt {α:Type} (o:Option α) (P:α → Prop):Prop:=∃ a,o = some a ∧ P a
variable {α β γ σ ι τ ρ:Type}
theorem Wt.mon {o:Option α} {P Q:α → Prop} (h:Wt o P) (q:∀ a,P a → Q a):Wt o Q:=by
 obtain ⟨a,e,p⟩:=h
 exact ⟨a,e,q a p⟩
theorem Y5 {a:α} {P:α → Prop} (h:P a):Wt (some a) P:=⟨a,rfl,h⟩
theorem Xn {o:Option α} {k:α → Option β} {P:β → Prop} (h:Wt o fun a=>Wt (k a) P):Wt (o.bind k) P:=by
 obtain ⟨a,rfl,b,e,p⟩:=h
 exact ⟨b,e,p⟩
theorem Y4 {o:Option α} {k:α → β} {P:β → Prop} (h:Wt o fun a=>P (k a)):Wt (o.map k) P:=by
 obtain ⟨a,rfl,p⟩:=h
 exact ⟨_,rfl,p⟩
theorem Yy {v:α} {k:α → Option β} {P:β → Prop} (h:Wt (k v) P):Wt (Q2f v k) P:=h
theorem Ks {c:Bool} {a b:Option α} {P:α → Prop} (h1:c = true → Wt a P) (h2:c = false → Wt b P):Wt (if c then a else b) P:=by
 cases c
 ·exact h2 rfl
 ·exact h1 rfl
theorem Yf {k:Dk} {M:Int} {P:Int × Dk → Prop} (hc:k.cs.length ≤ 63) (hM:0 < M) (hM2:M < 2 ^ 30) (h:∀ r k',0 ≤ r → r < M → k'.cs.length ≤ 63 → P (r,k')):Wt (W2 k M) P:=by
 obtain ⟨r,k',e,h1,h2,h3⟩:=Qfm k M hM hM2 hc
 exact ⟨_,e,h r k' h1 h2 h3⟩
theorem QaD (xs:List α) (i:Int) (h0:0 ≤ i) (h1:i < xs.length):∃ h:i.toNat < xs.length,atI xs i = some (xs[i.toNat]'h):=by
 refine ⟨by omega,?_⟩
 unfold atI ixN
 rw [if_pos h0,if_pos h1]
 exact Qa _
theorem Q2W {xs:List α} {i:Int} {P:α → Prop} (h0:0 ≤ i) (h1:i < xs.length) (h:∀ x ∈ xs,P x):Wt (atI xs i) P:=by
 obtain ⟨c,e⟩:=QaD xs i h0 h1
 exact ⟨_,e,h _ (Xg _)⟩
theorem Q3b {xs:List α} {i:Int} {v:α} {P:List α → Prop} (h0:0 ≤ i) (h1:i < xs.length) (h:P (xs.set i.toNat v)):Wt (Q32 xs i v) P:=by
 unfold Q32 ixN
 rw [if_pos h0,if_pos h1]
 exact ⟨_,rfl,h⟩
theorem Q24:1000000 ≤ sizeLine:=QfM
theorem QiE {xs:List α} {x:α} {P:List α → Prop} (h0:xs.length < 1000000) (h:P (xs ++ [x])):Wt (QfE xs x) P:=⟨_,if_pos (Qs h0 Q24),h⟩
theorem Qix {xs ys:List α} {P:List α → Prop} (h0:xs.length + ys.length ≤ 1000000) (h:P (xs ++ ys)):Wt (QgZ xs ys) P:=⟨_,if_pos (J3 h0 Q24),h⟩
theorem Q4z {xs ys:List α} {P:List α → Prop} (h0:xs.length + ys.length ≤ 1000000) (h:P (xs ++ ys)):Wt (Wg xs ys) P:=⟨_,if_pos (J3 h0 Q24),h⟩
theorem Q43 {xs:List ι} {o:Option τ} {P:τ → Prop} (h0:xs.length ≤ 1000000) (h:Wt o P):Wt (K5 xs o) P:=by
 unfold K5
 rw [if_pos (J3 h0 Q24)]
 exact h
theorem Q5A {j:Int} {P:List Int → Prop} (h0:-1000000 ≤ j) (h1:j ≤ 1000000) (h:P (Q3i 0 j.toNat)):Wt (Q8g j) P:=⟨_,if_pos (Qc3 h0 h1),h⟩
theorem Qfh {i j:Int} {P:List Int → Prop} (h0:0 ≤ i) (h1:i ≤ 1000000) (h2:0 ≤ j) (h3:j ≤ 1000000) (h:P (Q3i i (j - i).toNat)):Wt (rgQ i j) P:=⟨_,if_pos (by unfold rgB; rw [decide_eq_true h0,decide_eq_true h2,decide_eq_true (show i ≤ 16777216 by omega),decide_eq_true (show j ≤ 16777216 by omega)]; rfl),h⟩
theorem QeR {a b:Int} {P:Int → Prop} (h:Q0s a = true ∨ Q0s b = true) (p:P (a * b)):Wt (Q23 a b) P:=⟨_,if_pos (by rcases h with h | h <;> simp [h]),p⟩
theorem Qbd {xs:List α} {n:Int} {P:α × List α → Prop} (h0:0 ≤ n) (h1:n < xs.length) (hl:xs.length ≤ 1000000) (h:∀ hh:n.toNat < xs.length,P (xs[n.toNat]'hh,xs.eraseIdx n.toNat)):Wt (Q5Q xs n) P:=by
 unfold Q5Q
 rw [if_pos ⟨h0,J3 hl Q24⟩,Qa (by omega)]
 exact ⟨_,rfl,h _⟩
theorem QjD {x:α} {k:Int} {P:List α → Prop} (h0:0 ≤ k) (h1:k ≤ 1000000) (h:P (Qn k.toNat x)):Wt (Qe9 [x] k) P:=by
 have big:=Q24
 unfold Qe9
 rw [decide_eq_true h0,decide_eq_true (show k < 2 ^ 62 by omega),decide_eq_true (show ([x]:List α).length * k.toNat ≤ sizeLine by simp; omega)]
 refine ⟨_,rfl,?_⟩
 have:(Qn k.toNat [x]).flatten = Qn k.toNat x:=by
  induction k.toNat with
  | zero=>rfl
  | succ n ih=>rw [Xb,Xb,List.flatten_cons,ih]; rfl
 rw [this]
 exact h
theorem Q3x {step:ι → σ → Option σ} (I:List ι → σ → Prop) {P:σ → Prop}:∀ {xs:List ι} {s:σ},I xs s → (∀ x xs s,I (x :: xs) s → Wt (step x s) (I xs)) → (∀ s,I [] s → P s) → Wt (Q4u step xs s) P
 | [],s,h,_,q=>⟨s,rfl,q s h⟩
 | x :: xs,s,h,st,q=>by
  unfold Q4u
  refine Xn ((st x xs s h).mon fun s' h'=>Q3x I h' st q)
theorem QcK {step:ι → σ → Option σ} (I:σ → Prop) {P:σ → Prop} {xs:List ι} {s:σ} (h:I s) (st:∀ x ∈ xs,∀ s,I s → Wt (step x s) I) (q:∀ s,I s → P s):Wt (Q4u step xs s) P :=
 Q3x (fun ys s=>(∀ y ∈ ys,y ∈ xs) ∧ I s) ⟨fun _ h=>h,h⟩ (fun x ys s h=>(st x (h.1 x (Q7 ..)) s h.2).mon fun s' h'=>⟨fun y hy=>h.1 y (Q6 _ hy),h'⟩) fun s h=>q s h.2
theorem Q9V {step:ι → σ → Option (σ ⊕ ρ)} (I:σ → Prop) {P:σ ⊕ ρ → Prop}:∀ {xs:List ι} {s:σ},I s → (∀ x ∈ xs,∀ s,I s → Wt (step x s) fun w=>∃ s',w = .inl s' ∧ I s') → (∀ s,I s → P (.inl s)) → Wt (QaR step xs s) P
 | [],s,h,_,q=>⟨_,rfl,q s h⟩
 | x :: xs,s,h,st,q=>by
  unfold QaR
  refine Xn ((st x (Q7 ..) s h).mon fun w hw=>?_)
  obtain ⟨s',rfl,h'⟩:=hw
  exact Q9V I h' (fun y hy=>st y (Q6 _ hy)) q
theorem QaJ {c:σ → Option Bool} {step:σ → Option σ} (I:Nat → σ → Prop) {P:σ → Prop}:∀ {n:Nat} {s:σ},I n s → (∀ n s,I n s → Wt (c s) fun b=>if b = true then ∃ m,n = m + 1 ∧ Wt (step s) (I m) else 0 < n ∧ P s) → Wt (Q4E c step n s) P
 | 0,s,h,st=>by
  obtain ⟨b,_,q⟩:=st 0 s h
  cases b
  ·exact absurd q.1 (by omega)
  ·obtain ⟨m,hm,_⟩:=q
   omega
 | n + 1,s,h,st=>by
  unfold Q4E
  refine Xn ((st _ s h).mon fun b hb=>?_)
  cases b
  ·exact Y5 hb.2
  ·obtain ⟨m,hm,w⟩:=hb
   cases hm
   exact Xn (w.mon fun s' h'=>QaJ I h' st)
theorem Qho {f:ι → Option τ} {P:List τ → Prop} {xs:List ι} (g:ι → τ) (hf:∀ x ∈ xs,f x = some (g x)) (h:P (xs.map g)):Wt (mapM f xs) P:=by
 have:∀ ys:List ι,(∀ x ∈ ys,f x = some (g x)) → mapM f ys = some (ys.map g):=by
  intro ys
  induction ys with
  | nil=>intro _; rfl
  | cons y ys ih =>
   intro hy
   unfold mapM
   rw [hy y (Q7 ..),Q1,ih fun x hx=>hy x (Q6 _ hx)]
   rfl
 exact ⟨_,this xs hf,h⟩
theorem Q6O {c:ι → Option Bool} {f:ι → Option τ} (b:ι → Bool) (g:ι → τ):∀ xs:List ι,(∀ x ∈ xs,c x = some (b x)) → (∀ x ∈ xs,b x = true → f x = some (g x)) → Q1F c f xs = some ((xs.filter b).map g)
 | [],_,_=>rfl
 | x :: xs,hc,hf=>by
  unfold Q1F
  rw [hc x (Q7 ..),Q1,Q6O b g xs (fun y hy=>hc y (Q6 _ hy)) (fun y hy=>hf y (Q6 _ hy)),List.filter_cons]
  cases e:b x
  ·rfl
  ·show (f x).bind _ = _
   rw [hf x (Q7 ..) e]
   rfl
theorem Qcz {c:ι → Option Bool} {f:ι → Option τ} {P:List τ → Prop} {xs:List ι} (b:ι → Bool) (g:ι → τ) (hc:∀ x ∈ xs,c x = some (b x)) (hf:∀ x ∈ xs,b x = true → f x = some (g x)) (h:P ((xs.filter b).map g)):Wt (Q1F c f xs) P:=⟨_,Q6O b g xs hc hf,h⟩
theorem Q5o {f:ι → σ → Option (τ × σ)} {P:List τ × σ → Prop} (Q:τ → Prop) (I:List ι → σ → Prop):∀ {xs:List ι} {s:σ},I xs s → (∀ x xs s,I (x :: xs) s → Wt (f x s) fun p=>Q p.1 ∧ I xs p.2) → (∀ ys s,ys.length = xs.length → (∀ y ∈ ys,Q y) → I [] s → P (ys,s)) → Wt (Q8m f xs s) P
 | [],s,h,_,q=>⟨_,rfl,q [] s rfl (fun _ h=>nomatch h) h⟩
 | x :: xs,s,h,st,q=>by
  unfold Q8m
  refine Xn ((st x xs s h).mon fun p hp=>Y4 (Q5o Q I hp.2 st fun ys s' e a i=>?_))
  refine q _ _ (by simp [e]) (fun y hy=>?_) i
  rcases Qg.mp hy with rfl | hy
  ·exact hp.1
  ·exact a y hy
theorem Q0R [DecidableEq α] {xs:List (α × β)} {k:α} {v:β} (h:Z0 xs k = some v):(k,v) ∈ xs:=by
 unfold Z0 at h
 cases e:xs.find? (fun p=>decide (p.1 = k)) with
 | none=>rw [e] at h; cases h
 | some p =>
  rw [e] at h
  cases h
  have h1:=List.find?_some e
  have h2:=List.mem_of_find?_eq_some e
  have:p.1 = k:=of_decide_eq_true h1
  rw [← this]
  exact h2
theorem Q7n [DecidableEq α] {xs:List (α × β)} {k:α} (h:k ∈ xs.map (·.1)):∃ v,Z0 xs k = some v:=by
 unfold Z0
 cases e:xs.find? (fun p=>decide (p.1 = k)) with
 | none =>
  obtain ⟨p,hp,rfl⟩:=Qy.mp h
  have:=List.find?_eq_none.mp e p hp
  simp at this
 | some p=>exact ⟨_,rfl⟩
theorem Qg9 [DecidableEq α] {xs:List (α × β)} {k:α} {P:β → Prop} (h:k ∈ xs.map (·.1)) (p:∀ v,Z0 xs k = some v → (k,v) ∈ xs → P v):Wt (Z0 xs k) P:=by
 obtain ⟨v,e⟩:=Q7n h
 exact ⟨v,e,p v e (Q0R e)⟩
theorem Q8Y [DecidableEq α] (xs:List (α × β)) (k:α) (v:β) (h:k ∈ xs.map (·.1)):(Q01 xs k v).map (·.1) = xs.map (·.1):=by
 unfold Q01
 have:xs.any (fun p=>decide (p.1 = k)) = true:=by
  rw [Xe]
  obtain ⟨p,hp,e⟩:=Qy.mp h
  exact ⟨p,hp,decide_eq_true e⟩
 rw [if_pos this,Jb]
 apply Jl
 intro p _
 simp only [Function.comp]
 split
 ·rename_i e; simp [e]
 ·rfl
theorem QaG [DecidableEq α] (xs:List (α × β)) (k:α) (v:β) (h:k ∉ xs.map (·.1)):Q01 xs k v = xs ++ [(k,v)]:=by
 unfold Q01
 rw [if_neg]
 intro c
 rw [Xe] at c
 obtain ⟨p,hp,e⟩:=c
 exact h (Qy.mpr ⟨p,hp,of_decide_eq_true e⟩)
theorem Q3E [DecidableEq α] {xs:List (α × β)} {k:α} {v:β} {p:α × β} (h:p ∈ Q01 xs k v):p = (k,v) ∨ p ∈ xs:=by
 unfold Q01 at h
 split at h
 ·obtain ⟨q,hq,e⟩:=Qy.mp h
  split at e
  ·rename_i c; left; rw [← e,c]
  ·right; rw [← e]; exact hq
 ·rcases Qc.mp h with h | h
  ·exact .inr h
  ·exact .inl (Qr.mp h)
theorem Q7t [DecidableEq α] (xs:List (α × β)) (k:α) (v:β) {j:α} (h:j = k ∨ j ∈ xs.map (·.1)):j ∈ (Q01 xs k v).map (·.1):=by
 by_cases c:k ∈ xs.map (·.1)
 ·rw [Q8Y _ _ _ c]
  rcases h with rfl | h
  ·exact c
  ·exact h
 ·rw [QaG _ _ _ c,Jw]
  rcases h with rfl | h
  ·exact Qc.mpr (.inr (Qr.mpr rfl))
  ·exact Qc.mpr (.inl h)
theorem Q7w [DecidableEq α] (xs:List (α × β)) (k:α) (v:β):(Q01 xs k v).length ≤ xs.length + 1:=by
 unfold Q01
 split
 ·rw [Q4]; omega
 ·simp
theorem Q9k [DecidableEq α] {xs:List (α × β)} {k:α} {v:β} {P:List (α × β) → Prop} (h0:xs.length < 1000000) (h:P (Q01 xs k v)):Wt (Q5E xs k v) P:=⟨_,if_pos (Qs h0 Q24),h⟩
theorem QeX {xs:List (Int × β)} {P:List Int → Prop} (h0:xs.length < 64) (h:∀ ks,ks.Perm (xs.map (·.1)) → P ks):Wt (QaN xs) P:=⟨_,if_pos h0,h _ (List.mergeSort_perm _ _)⟩
theorem Qb0 {lo:Int} {n:Nat} {x:Int} (h:x ∈ Q3i lo n):lo ≤ x ∧ x < lo + n:=by
 unfold Q3i at h
 obtain ⟨i,hi,rfl⟩:=Qy.mp h
 rw [List.mem_range] at hi
 omega
theorem Wj (lo:Int) (n:Nat):(Q3i lo n).length = n:=by simp [Q3i]
theorem QbE (lo:Int) (n:Nat):(Q3i lo n).Nodup:=by
 unfold Q3i
 rw [List.nodup_iff_pairwise_ne,List.pairwise_map]
 exact List.Pairwise.imp (fun {a b} h=>by omega) (List.nodup_iff_pairwise_ne.mp List.nodup_range)
theorem QcM {xs:List α} {a b:Nat}:Yn xs (some (a:Int)) (some (b:Int)) = (xs.drop (min a xs.length)).take (min b xs.length - min a xs.length):=by
 unfold Yn
 rw [HT.sIx_nat,HT.sIx_nat]
theorem Q1y {xs:List α} {b:Int} (h:0 ≤ b):Yn xs none (some b) = xs.take b.toNat:=by
 obtain ⟨n,rfl⟩:=Jy h
 unfold Yn
 rw [HT.sIx_nat,HT.sIx_none,List.drop_zero]
 simp [List.take_eq_take_iff]
theorem Q0l {xs:List α} {a:Int} (h:0 ≤ a):Yn xs (some a) none = xs.drop a.toNat:=by
 obtain ⟨n,rfl⟩:=Jy h
 unfold Yn
 rw [HT.sIx_nat,HT.sIx_none]
 by_cases c:n ≤ xs.length
 ·rw [Nat.min_eq_left c]
  simp [X5]
 ·rw [Nat.min_eq_right (by omega)]
  simp
  omega
theorem Q5C {xs:List α} {a b:Int} (h:0 ≤ a) (h1:a ≤ xs.length) (h2:a ≤ b):Yn xs (some a) (some b) = (xs.drop a.toNat).take (b - a).toNat:=by
 obtain ⟨n,rfl⟩:=Jy h
 obtain ⟨m,rfl⟩:=Jy (show 0 ≤ b by omega)
 have hn:n ≤ xs.length:=by omega
 have hm:n ≤ m:=by omega
 have e1:((n:Int)).toNat = n:=by omega
 have e2:((m:Int) - (n:Int)).toNat = m - n:=by omega
 rw [QcM,e1,e2,Nat.min_eq_left hn]
 by_cases c:m ≤ xs.length
 ·rw [Nat.min_eq_left c]
 ·rw [Nat.min_eq_right (by omega)]
  rw [X5 (by simp),X5 (by simp; omega)]
theorem Qcx {xs:List α} {lo hi:Option Int} {x:α} (h:x ∈ Yn xs lo hi):x ∈ xs:=List.mem_of_mem_drop (List.mem_of_mem_take h)
theorem Qaq {xs:List τ} {p:Int × τ} (h:p ∈ Q6w xs):0 ≤ p.1 ∧ p.1 < xs.length ∧ p.2 ∈ xs:=by
 unfold Q6w at h
 obtain ⟨q,hq,rfl⟩:=Qy.mp h
 obtain ⟨a,b⟩:=q
 have:=List.mem_zipIdx hq
 refine ⟨Int.natCast_nonneg _,by simp at this ⊢; omega,?_⟩
 simp at this ⊢
 rw [this.2]
 exact Xg _
structure Sh (w k:Nat) (d:D):Prop where
 s:d.showable = true
 n:d.hasDict = false
 l:d.leavesShort 13 = true
 dp:d.depth ≤ k
 wt:d.weight ≤ w
end Z
namespace Z
open PySem PySem.Spec PyProof.Rows L2
structure ShB (w k:Nat) (d:D):Prop where
 s:d.showable = true
 n:d.hasDict = false
 l:d.leavesShort 600 = true
 dp:d.depth ≤ k
 wt:d.weight ≤ w
end Z
namespace Z
open PySem
abbrev Y2:=(eLi Q0)
abbrev Vg:=(eDi Q0 (eP2 Q0 (eLi eD)))
abbrev Zu:=(eDi Q0 (eLi Q0))
abbrev Q0c:=(eP3 Q0 Q0 (eTu Q0))
end Z
namespace K05
open PySem PySem.Spec PyProof.Rows L2 Z
def top (i:Nat):Stmt:=PySem.Challenge.pw_soundstore_k05_texts_of_no_store.main.body.getD i (.Pass ⟨0,0,0,0⟩)
abbrev exN:List Str:=["StoreError", "NoText", "Unsound", "NoPath", "NoWorths", "NoName", "Ring", "Taken", "NotEmpty", "Full", "NoPlace", "NoBack", "NoRow"]
structure Txt (K:PySem.W.Frag) (mg:Str → Option Value):Prop where
 c_BLOCK_CELLS:GC K mg "BLOCK_CELLS" (.int 4)
 c_FIGURES:GC K mg "FIGURES" (.str "0123456789")
 c_HEAD_CELLS:GC K mg "HEAD_CELLS" (.int 7)
 c_LEAST_BLOCKS:GC K mg "LEAST_BLOCKS" (.int 3)
 c_LEAST_HEADS:GC K mg "LEAST_HEADS" (.int 2)
 c_LOG_CELLS:GC K mg "LOG_CELLS" (.int 82)
 c_MOST_BLOCKS:GC K mg "MOST_BLOCKS" (.int 12)
 c_MOST_FIGURES:GC K mg "MOST_FIGURES" (.int 40)
 c_MOST_HEADS:GC K mg "MOST_HEADS" (.int 8)
 m_ValueError:mg "ValueError" = none
 m_all:mg "all" = none
 m_bool:mg "bool" = none
 m_enumerate:mg "enumerate" = none
 m_int:mg "int" = none
 m_isinstance:mg "isinstance" = none
 m_len:mg "len" = none
 m_list:mg "list" = none
 m_range:mg "range" = none
 m_repr:mg "repr" = none
 m_reversed:mg "reversed" = none
 m_sorted:mg "sorted" = none
 m_str:mg "str" = none
 m_sum:mg "sum" = none
 m_tuple:mg "tuple" = none
 m_zip:mg "zip" = none
 ex:Q7P K mg exN
section
variable {P:Program} {w:World} {K:PySem.W.Frag} {mg:Str → Option Value} {base:Heap}
abbrev Q3v:Stmt:=top 23
theorem Q5e:FnScope ["thing"] ["thing"] (defScope Q3v):=⟨rfl,rfl,rfl,by decide +kernel,rfl,by decide +kernel,by decide +kernel⟩
def Qaw:List Sl → Option Out:=Xu (Vp (Q7D (f1 (Qbs "int") (Xr 0)) (Qef (f1 (Qbs "bool") (Xr 0))))) (Ym)
def Kb:List Sl → Option (D × List Sl):=fnF [false] 1 .n Qaw
theorem Q9X (T:Txt K mg)  {f:Addr} {fd:FuncData} (Fu:Fun K "is_number" "is_number" Q3v f fd) (m:mg "is_number" = some (.ref f)):GK P w K mg base "is_number" 1 1 .n Kb:=by
 refine ⟨f,fd,["thing"],Wy Fu Q5e rfl (fun cd A out s G E hG hr=>?_),rfl,m,Fu.kp,Fu.binds fun _ _ _ _ _ _ us hl=>match us,hl with | [_],_=>rfl⟩
 have S:=Q5e; have h1:=hu1 hr; have h65:=Z9 hr; have h66:=Zi hr; have h67:=Zl hr
 exact Xo (Yv (Q7a (Q4X (T := "int") rfl (bnk T.m_isinstance) (bnk T.m_int) (Xs 0)) (Q6N (QfJ (Q4X (T := "bool") rfl (bnk T.m_isinstance) (bnk T.m_bool) (Xs 0)))))) (Y6)
abbrev Q4W:Stmt:=top 24
theorem Q6g:FnScope ["heads", "blocks"] ["heads", "blocks"] (defScope Q4W):=⟨rfl,rfl,rfl,by decide +kernel,rfl,by decide +kernel,by decide +kernel⟩
def QbP:List Sl → Option Out:=Xu (sIf (gOr (Q1G (fun δ=>toB (Yh [] true Kb (Y8 (Xr 0) (V2)) δ))) (Q1G (fun δ=>toB (Yh [] true Kb (Y8 (Xr 1) (V2)) δ)))) (Xu (Vp (Xp (.bool false))) (Ym)) (Ym)) (Xu (Vp (Q7D (Q0u (bD leD) (bD leD) (Xp (.int 2)) (Xr 0) (Xp (.int 8))) (Q0u (bD leD) (bD leD) (Xp (.int 3)) (Xr 1) (Xp (.int 12))))) (Ym))
def Q03:List Sl → Option (D × List Sl):=fnF [false,false] 2 .n QbP
theorem Qbw (T:Txt K mg) (k_is_number:GK P w K mg base "is_number" 1 1 .n Kb) {f:Addr} {fd:FuncData} (Fu:Fun K "is_shape" "is_shape" Q4W f fd) (m:mg "is_shape" = some (.ref f)):GK P w K mg base "is_shape" 2 2 .n Q03:=by
 refine ⟨f,fd,["heads", "blocks"],Wy Fu Q6g rfl (fun cd A out s G E hG hr=>?_),rfl,m,Fu.kp,Fu.binds fun _ _ _ _ _ _ us hl=>match us,hl with | [_,_],_=>rfl⟩
 have S:=Q6g; have h1:=hu1 hr; have h65:=Z9 hr; have h66:=Zi hr; have h67:=Zl hr
 exact Xo (Wp (WV.tv (Q2s (Zn (Zk (Ys (k_is_number.kn hr hG) (Xy (Xs 0) (Yb))))) (Q2L (Zn (Zk (Ys (k_is_number.kn hr hG) (Xy (Xs 1) (Yb)))))))) (Xo (Yv (Q4g)) (Y6)) (Y6)) (Xo (Yv (Q7a (Qaa Q7o.op Ye Q7o.op Ye (Q82 T.c_LEAST_HEADS) (Xs 0) (Q82 T.c_MOST_HEADS)) (Q6N (Qaa Q7o.op Ye Q7o.op Ye (Q82 T.c_LEAST_BLOCKS) (Xs 1) (Q82 T.c_MOST_BLOCKS))))) (Y6))
abbrev Q2x:Stmt:=top 25
theorem Q4e:FnScope ["heads", "blocks"] ["heads", "blocks"] (defScope Q2x):=⟨rfl,rfl,rfl,by decide +kernel,rfl,by decide +kernel,by decide +kernel⟩
def Q9q:List Sl → Option Out:=Xu (Vp (f2 Yr (f2 Yr (f2 Vx (Xp (.int 7)) (Xr 0)) (f2 Vx (f2 Yr (Xp (.int 1)) (Xp (.int 4))) (Xr 1))) (Xp (.int 82)))) (Ym)
def Ko:List Sl → Option (D × List Sl):=fnF [false,false] 2 .n Q9q
theorem Q87 (T:Txt K mg)  {f:Addr} {fd:FuncData} (Fu:Fun K "many_cells" "many_cells" Q2x f fd) (m:mg "many_cells" = some (.ref f)):GK P w K mg base "many_cells" 1 2 .n Ko:=by
 refine ⟨f,fd,["heads", "blocks"],Wy Fu Q4e rfl (fun cd A out s G E hG hr=>?_),rfl,m,Fu.kp,Fu.binds fun _ _ _ _ _ _ us hl=>match us,hl with | [_,_],_=>rfl⟩
 have S:=Q4e; have h1:=hu1 hr; have h65:=Z9 hr; have h66:=Zi hr; have h67:=Zl hr
 exact Xo (Yv (Xt Xw Xv (Xt Xw Xv (Xt Yu Yt (Q82 T.c_HEAD_CELLS) (Xs 0)) (Xt Yu Yt (Xt Xw Xv (Xk) (Q82 T.c_BLOCK_CELLS)) (Xs 1))) (Q82 T.c_LOG_CELLS))) (Y6)
abbrev Q2C:Stmt:=top 26
theorem Q6h:FnScope ["thing", "cells", "cell"] ["thing"] (defScope Q2C):=⟨rfl,rfl,rfl,by decide +kernel,rfl,by decide +kernel,by decide +kernel⟩
def QbD:List Sl → Option Out:=Xu (sIf (gOr (Q1G (fun δ=>toB ((f1 (Qbs "tuple") (Xr 0)) δ))) (gOr (fun δ=>toB (f2 (bD neD) (fA (g1 Zp) (Xq (Xr 0) (Yg))) (Xp (.int 3)) δ)) (Q1G (fun δ=>toB (Yh [] true Q03 (Y8 (f2 W1 (Xr 0) (Xp (.int 0))) (Y8 (f2 W1 (Xr 0) (Xp (.int 1))) (V2))) δ))))) (Xu (Vp (Xp (.bool false))) (Ym)) (Ym)) (Xu (Vs 1 (f2 W1 (Xr 0) (Xp (.int 2)))) (Xu (sIf (gOr (Q1G (fun δ=>toB ((f1 (Qbs "tuple") (Xr 1)) δ))) (fun δ=>toB (f2 (bD neD) (fA (g1 Zp) (Xq (Xr 1) (Yg))) (Yh [] true Ko (Y8 (f2 W1 (Xr 0) (Xp (.int 0))) (Y8 (f2 W1 (Xr 0) (Xp (.int 1))) (V2)))) δ))) (Xu (Vp (Xp (.bool false))) (Ym)) (Ym)) (Xu (Vp (fA (g1 Qfe) (Xq (fLc (.nm 2) [2] (fIt (Xr 1)) (Q0C) (Yh [] true Kb (Y8 (Xr 2) (V2)))) (Yg)))) (Ym))))
def Q21:List Sl → Option (D × List Sl):=fnF [false] 3 .n QbD
theorem Qaz (T:Txt K mg) (k_is_number:GK P w K mg base "is_number" 1 1 .n Kb) (k_is_shape:GK P w K mg base "is_shape" 2 2 .n Q03) (k_many_cells:GK P w K mg base "many_cells" 1 2 .n Ko) {f:Addr} {fd:FuncData} (Fu:Fun K "is_store" "is_store" Q2C f fd) (m:mg "is_store" = some (.ref f)):GK P w K mg base "is_store" 3 1 .n Q21:=by
 refine ⟨f,fd,["thing"],Wy Fu Q6h rfl (fun cd A out s G E hG hr=>?_),rfl,m,Fu.kp,Fu.binds fun _ _ _ _ _ _ us hl=>match us,hl with | [_],_=>rfl⟩
 have S:=Q6h; have h1:=hu1 hr; have h65:=Z9 hr; have h66:=Zi hr; have h67:=Zl hr
 exact Xo (Wp (WV.tv (Q2s (Zn (Zk (Q4X (T := "tuple") rfl (bnk T.m_isinstance) (bnk T.m_tuple) (Xs 0)))) (Q2s (Yx (Q0O h65).op Ye (V4 (bnk T.m_len) Wq Ws (Xj (Xs 0) (Xx))) (Xk)) (Q2L (Zn (Zk (Ys (k_is_shape.kn hr hG) (Xy (V3 h1 (Xs 0) (Xk)) (Xy (V3 h1 (Xs 0) (Xk)) (Yb)))))))))) (Xo (Yv (Q4g)) (Y6)) (Y6)) (Xo (V0 rfl (tgk 1 S.nd) (V3 h1 (Xs 0) (Xk))) (Xo (Wp (WV.tv (Q2s (Zn (Zk (Q4X (T := "tuple") rfl (bnk T.m_isinstance) (bnk T.m_tuple) (Xs 1)))) (Q2L (Yx (Q0O h65).op Ye (V4 (bnk T.m_len) Wq Ws (Xj (Xs 1) (Xx))) (Ys (k_many_cells.kn hr hG) (Xy (V3 h1 (Xs 0) (Xk)) (Xy (V3 h1 (Xs 0) (Xk)) (Yb)))))))) (Xo (Yv (Q4g)) (Y6)) (Y6)) (Xo (Yv (V4 (bnk T.m_all) (cr_all rfl) QeK (Xj (NV.ev (Q1L (own:=[("cell",2)]) rfl S.nd (K1 (Xs 1)) (K8 (N:=["thing", "cells", "cell"]) (sc:=defScope Q2C) (by decide +kernel)) (fun _ _ _ _ _=>Yi (tgk 2 S.nd)) (fun _ _ _ _ _=>Kf) (fun _ _ _ _ _=>Ys (k_is_number.kn hr hG) (Xy (Xs 2) (Yb))))) (Xx)))) (Y6))))
abbrev Q3t:Stmt:=top 28
theorem Q5f:FnScope ["heads"] ["heads"] (defScope Q3t):=⟨rfl,rfl,rfl,by decide +kernel,rfl,by decide +kernel,by decide +kernel⟩
def QaX:List Sl → Option Out:=Xu (Vp (f2 Vx (Xp (.int 7)) (Xr 0))) (Ym)
def Ze:List Sl → Option (D × List Sl):=fnF [false] 1 .n QaX
theorem Q9P (T:Txt K mg)  {f:Addr} {fd:FuncData} (Fu:Fun K "map_first" "map_first" Q3t f fd) (m:mg "map_first" = some (.ref f)):GK P w K mg base "map_first" 1 1 .n Ze:=by
 refine ⟨f,fd,["heads"],Wy Fu Q5f rfl (fun cd A out s G E hG hr=>?_),rfl,m,Fu.kp,Fu.binds fun _ _ _ _ _ _ us hl=>match us,hl with | [_],_=>rfl⟩
 have S:=Q5f; have h1:=hu1 hr; have h65:=Z9 hr; have h66:=Zi hr; have h67:=Zl hr
 exact Xo (Yv (Xt Yu Yt (Q82 T.c_HEAD_CELLS) (Xs 0))) (Y6)
abbrev Q28:Stmt:=top 29
theorem Q3D:FnScope ["heads", "blocks"] ["heads", "blocks"] (defScope Q28):=⟨rfl,rfl,rfl,by decide +kernel,rfl,by decide +kernel,by decide +kernel⟩
def Q8b:List Sl → Option Out:=Xu (Vp (f2 Yr (Yh [] true Ze (Y8 (Xr 0) (V2))) (Xr 1))) (Ym)
def K6:List Sl → Option (D × List Sl):=fnF [false,false] 2 .n Q8b
theorem Q7N (T:Txt K mg) (k_map_first:GK P w K mg base "map_first" 1 1 .n Ze) {f:Addr} {fd:FuncData} (Fu:Fun K "block_first" "block_first" Q28 f fd) (m:mg "block_first" = some (.ref f)):GK P w K mg base "block_first" 2 2 .n K6:=by
 refine ⟨f,fd,["heads", "blocks"],Wy Fu Q3D rfl (fun cd A out s G E hG hr=>?_),rfl,m,Fu.kp,Fu.binds fun _ _ _ _ _ _ us hl=>match us,hl with | [_,_],_=>rfl⟩
 have S:=Q3D; have h1:=hu1 hr; have h65:=Z9 hr; have h66:=Zi hr; have h67:=Zl hr
 exact Xo (Yv (Xt Xw Xv (Ys (k_map_first.kn hr hG) (Xy (Xs 0) (Yb))) (Xs 1))) (Y6)
abbrev Q38:Stmt:=top 30
theorem Q5K:FnScope ["heads", "blocks"] ["heads", "blocks"] (defScope Q38):=⟨rfl,rfl,rfl,by decide +kernel,rfl,by decide +kernel,by decide +kernel⟩
def Qbu:List Sl → Option Out:=Xu (Vp (f2 Yr (Yh [] true K6 (Y8 (Xr 0) (Y8 (Xr 1) (V2)))) (f2 Vx (Xp (.int 4)) (Xr 1)))) (Ym)
def Q1b:List Sl → Option (D × List Sl):=fnF [false,false] 2 .n Qbu
theorem Q9d (T:Txt K mg) (k_block_first:GK P w K mg base "block_first" 2 2 .n K6) {f:Addr} {fd:FuncData} (Fu:Fun K "log_first" "log_first" Q38 f fd) (m:mg "log_first" = some (.ref f)):GK P w K mg base "log_first" 3 2 .n Q1b:=by
 refine ⟨f,fd,["heads", "blocks"],Wy Fu Q5K rfl (fun cd A out s G E hG hr=>?_),rfl,m,Fu.kp,Fu.binds fun _ _ _ _ _ _ us hl=>match us,hl with | [_,_],_=>rfl⟩
 have S:=Q5K; have h1:=hu1 hr; have h65:=Z9 hr; have h66:=Zi hr; have h67:=Zl hr
 exact Xo (Yv (Xt Xw Xv (Ys (k_block_first.kn hr hG) (Xy (Xs 0) (Xy (Xs 1) (Yb)))) (Xt Yu Yt (Q82 T.c_BLOCK_CELLS) (Xs 1)))) (Y6)
abbrev Q4y:Stmt:=top 34
theorem Q6x:FnScope ["heads", "blocks", "ends"] ["heads", "blocks"] (defScope Q4y):=⟨rfl,rfl,rfl,by decide +kernel,rfl,by decide +kernel,by decide +kernel⟩
def Qc9:List Sl → Option Out:=Xu (Vs 2 (We (Xq (Xp (.int 0)) (Xq (Yh [] true Ze (Y8 (Xr 0) (V2))) (Xq (Yh [] true K6 (Y8 (Xr 0) (Y8 (Xr 1) (V2)))) (Xq (Yh [] true Q1b (Y8 (Xr 0) (Y8 (Xr 1) (V2)))) (Xq (Yh [] true Ko (Y8 (Xr 0) (Y8 (Xr 1) (V2)))) (Yg)))))))) (Xu (Vp (fA Qdm (Xq (f3 Wx (Xr 2) (Wa) (Vd (f1 QiV (Xp (.int 1))))) (Xq (f3 Wx (Xr 2) (Vd (Xp (.int 1))) (Wa)) (Yg))))) (Ym))
def Q1W:List Sl → Option (D × List Sl):=fnF [false,false] 3 .l Qc9
theorem Qbk (T:Txt K mg) (k_block_first:GK P w K mg base "block_first" 2 2 .n K6) (k_log_first:GK P w K mg base "log_first" 3 2 .n Q1b) (k_many_cells:GK P w K mg base "many_cells" 1 2 .n Ko) (k_map_first:GK P w K mg base "map_first" 1 1 .n Ze) {f:Addr} {fd:FuncData} (Fu:Fun K "lines_of" "lines_of" Q4y f fd) (m:mg "lines_of" = some (.ref f)):GK P w K mg base "lines_of" 4 2 .l Q1W:=by
 refine ⟨f,fd,["heads", "blocks"],Wy Fu Q6x rfl (fun cd A out s G E hG hr=>?_),rfl,m,Fu.kp,Fu.binds fun _ _ _ _ _ _ us hl=>match us,hl with | [_,_],_=>rfl⟩
 have S:=Q6x; have h1:=hu1 hr; have h65:=Z9 hr; have h66:=Zi hr; have h67:=Zl hr
 exact Xo (V0 rfl (tgk 2 S.nd) (NV.ev (Ve (Xj (Xk) (Xj (Ys (k_map_first.kn hr hG) (Xy (Xs 0) (Yb))) (Xj (Ys (k_block_first.kn hr hG) (Xy (Xs 0) (Xy (Xs 1) (Yb)))) (Xj (Ys (k_log_first.kn hr hG) (Xy (Xs 0) (Xy (Xs 1) (Yb)))) (Xj (Ys (k_many_cells.kn hr hG) (Xy (Xs 0) (Xy (Xs 1) (Yb)))) (Xx))))))))) (Xo (QgR (QdZ rfl (by exact ⟨rfl,T.m_list⟩) (by exact ⟨rfl,T.m_zip⟩) (Xj (Yl (Xs 2) (Va) (Yp (Qjv (Xk)))) (Xj (Yl (Xs 2) (Yp (Xk)) (Va)) (Xx))))) (Y6))
abbrev Q1S:Stmt:=top 35
theorem Q5D:FnScope ["word", "figures", "sign"] ["word"] (defScope Q1S):=⟨rfl,rfl,rfl,by decide +kernel,rfl,by decide +kernel,by decide +kernel⟩
def Q6r:List Sl → Option Ox:=Yk (xS (Vs 1 (Xr 0))) (Yk (xS (sIf (fun δ=>toB (f2 (bD eqD) (f3 Wx (Xr 0) (Wa) (Vd (Xp (.int 1)))) (Xp (.str "-")) δ)) (Xu (Vs 1 (f3 Wx (Xr 0) (Vd (Xp (.int 1))) (Wa))) (Ym)) (Ym))) (Yk (Q48 (gOr (Q1G (fun δ=>toB (Q0u (bD leD) (bD leD) (Xp (.int 1)) (fA (g1 Zp) (Xq (Xr 1) (Yg))) (Xp (.int 40)) δ))) (Q1G (fun δ=>toB ((fA (g1 Qfe) (Xq (fLc (.nm 2) [2] (fIt (Xr 1)) (Q0C) (f2 (bD inD) (Xr 2) (Xp (.str "0123456789")))) (Yg))) δ)))) (Yk (Q36 "NoText") (xS Ym)) (xS Ym)) (Yk (Q48 (Q7Z (fun δ=>toB (f2 (bD eqD) (f2 W1 (Xr 1) (Xp (.int 0))) (Xp (.str "0")) δ)) (fun δ=>toB (f2 (bD neD) (Xr 0) (Xp (.str "0")) δ))) (Yk (Q36 "NoText") (xS Ym)) (xS Ym)) (Yk (xR (Vp (fA (g1 QaI) (Xq (Xr 0) (Yg))))) (xS Ym)))))
def Q1a:List Sl → Option (Rs × List Sl):=fnX [false] 1 3 [] (.f .n) Q6r
theorem Q9g (T:Txt K mg)  {f:Addr} {fd:FuncData} (Fu:Fun K "number_in" "number_in" Q1S f fd) (m:mg "number_in" = some (.ref f)):GX P w K mg base "number_in" 1 1 0 (fun _=>false) (.f .n) Q1a:=by
 refine ⟨f,fd,["word"],Q9j (N:=["word", "figures", "sign"]) (fr:=.f .n) (g:=Q6r) (n:=1) (m:=0) (vl:=[]) (mv:=(fun _=>false)) (sg:=[false]) Fu Q5D rfl (Qa5 rfl) (.inl (.inl rfl)) (Qdq (by decide +kernel)) (fun cd A out s G E hG hr=>?_),rfl,m,Fu.kp,Fu.binds fun _ _ _ _ _ _ us hl=>match us,hl with | [_],_=>rfl⟩
 have S:=Q5D; have h1:=hu1 hr; have h65:=Z9 hr; have h66:=Zi hr; have h67:=Zl hr
 exact V9 (Q9o (V0 rfl (tgk 1 S.nd) (Xs 0))) (V9 (Q9o (Wp (Yx (Kj h65).op Ye (Yl (Xs 0) (Va) (Yp (Xk))) (Ya)) (Xo (V0 rfl (tgk 1 S.nd) (Yl (Xs 0) (Yp (Xk)) (Va))) (Y6)) (Y6))) (V9 (Q6j (WV.tv (Q2s (Zn (Q7B Q7o.op Ye Q7o.op Ye (Xk) (V4 (bnk T.m_len) Wq Ws (Xj (Xs 1) (Xx))) (Q82 T.c_MOST_FIGURES))) (Q2L (Zn (Zk (V4 (bnk T.m_all) (cr_all rfl) QeK (Xj (NV.ev (Q1L (own:=[("sign",2)]) rfl S.nd (K1 (Xs 1)) (K8 (N:=["word", "figures", "sign"]) (sc:=defScope Q1S) (by decide +kernel)) (fun _ _ _ _ _=>Yi (tgk 2 S.nd)) (fun _ _ _ _ _=>Kf) (fun _ _ _ _ _=>Q2A (QhX h65).op Ye (Xs 2) (Q82 T.c_FIGURES)))) (Xx)))))))) (V9 (Q2r rfl (takes_of rfl rfl rfl rfl) (T.ex.xc (c := "NoText"))) (K9)) (K9)) (V9 (Q6j (WV.tv (Q76 (Yx (Kj h65).op Ye (V3 h1 (Xs 1) (Xk)) (Ya)) (Q6M (Yx (Q0O h65).op Ye (Xs 0) (Ya))))) (V9 (Q2r rfl (takes_of rfl rfl rfl rfl) (T.ex.xc (c := "NoText"))) (K9)) (K9)) (V9 (Qec (Yv (K0 (bnk T.m_int) QcD Qcp (Xj (Xs 0) (Xx))))) (K9)))))
abbrev Za:Stmt:=top 36
theorem Q4j:FnScope ["text", "rows", "line", "word", "heads", "blocks", "sizes", "first", "behind", "row", "found"] ["text"] (defScope Za):=⟨rfl,rfl,rfl,by decide +kernel,rfl,by decide +kernel,by decide +kernel⟩
def Q51:List Sl → Option Ox:=Yk (Q48 (Q1G (fun δ=>toB ((f1 (Qbs "str") (Xr 0)) δ))) (Yk (Q36 "NoText") (xS Ym)) (xS Ym)) (Yk (Q77 1 (Q5a (.nm 2) [2] (fIt (f2 Q9a (Xr 0) (Xp (.str "\n")))) (Q0C) (Q5a (.nm 3) [3] (fIt (f2 Q9a (Xr 2) (Xp (.str " ")))) (Q0C) (Q0P [] Q1a (Q1q (xOk (Xr 3)) (xAs V2)))))) (Yk (Q48 (gOr (fun δ=>toB (f2 (bD neD) (fA (g1 Zp) (Xq (Xr 1) (Yg))) (Xp (.int 5)) δ)) (gOr (fun δ=>toB (f2 (bD neD) (fA (g1 Zp) (Xq (f2 W1 (Xr 1) (Xp (.int 0))) (Yg))) (Xp (.int 2)) δ)) (Q1G (fun δ=>toB (Yh [] true Q03 (Y8 (f2 W1 (f2 W1 (Xr 1) (Xp (.int 0))) (Xp (.int 0))) (Y8 (f2 W1 (f2 W1 (Xr 1) (Xp (.int 0))) (Xp (.int 1))) (V2))) δ))))) (Yk (Q36 "NoText") (xS Ym)) (xS Ym)) (Yk (xS (Q5v (.cons (.nm 4) (.cons (.nm 5) (.nil))) (f2 W1 (Xr 1) (Xp (.int 0))))) (Yk (xS (Q1c 6 (fLc (.cons (.nm 7) (.cons (.nm 8) (.nil))) [7,8] (fIt (Yh [] true Q1W (Y8 (Xr 4) (Y8 (Xr 5) (V2))))) (Q0C) (f2 Q1K (Xr 8) (Xr 7))))) (Yk (Q48 (fun δ=>toB (f2 (bD neD) (fLc (.nm 9) [9] (fIt (f3 Wx (Xr 1) (Vd (Xp (.int 1))) (Wa))) (Q0C) (fA (g1 Zp) (Xq (Xr 9) (Yg)))) (fRd 6) δ)) (Yk (Q36 "NoText") (xS Ym)) (xS Ym)) (Yk (xS (Vs 10 (Q0p (Xq (Xr 4) (Xq (Xr 5) (Xq (fA (g1 QaO) (Xq (f2 Yr (f2 Yr (f2 Yr (f2 W1 (Xr 1) (Xp (.int 1))) (f2 W1 (Xr 1) (Xp (.int 2)))) (f2 W1 (Xr 1) (Xp (.int 3)))) (f2 W1 (Xr 1) (Xp (.int 4)))) (Yg))) (Yg))))))) (Yk (Q48 (Q1G (fun δ=>toB (Yh [] true Q21 (Y8 (Xr 10) (V2)) δ))) (Yk (Q36 "NoText") (xS Ym)) (xS Ym)) (Yk (xR (Vp (Xr 10))) (xS Ym)))))))))
def Wi:List Sl → Option (Rs × List Sl):=fnX [false] 1 11 [] (.f .n) Q51
theorem Q8n (T:Txt K mg) (k_is_shape:GK P w K mg base "is_shape" 2 2 .n Q03) (k_is_store:GK P w K mg base "is_store" 3 1 .n Q21) (k_lines_of:GK P w K mg base "lines_of" 4 2 .l Q1W) (k_number_in:GX P w K mg base "number_in" 1 1 0 (fun _=>false) (.f .n) Q1a) {f:Addr} {fd:FuncData} (Fu:Fun K "read_store" "read_store" Za f fd) (m:mg "read_store" = some (.ref f)):GX P w K mg base "read_store" 5 1 0 (fun _=>false) (.f .n) Wi:=by
 refine ⟨f,fd,["text"],Q9j (N:=["text", "rows", "line", "word", "heads", "blocks", "sizes", "first", "behind", "row", "found"]) (fr:=.f .n) (g:=Q51) (n:=1) (m:=0) (vl:=[]) (mv:=(fun _=>false)) (sg:=[false]) Fu Q4j rfl (Qa5 rfl) (.inl (.inl rfl)) (Qdq (by decide +kernel)) (fun cd A out s G E hG hr=>?_),rfl,m,Fu.kp,Fu.binds fun _ _ _ _ _ _ us hl=>match us,hl with | [_],_=>rfl⟩
 have S:=Q4j; have h1:=hu1 hr; have h65:=Z9 hr; have h66:=Zi hr; have h67:=Zl hr
 exact V9 (Q6j (Zn (Zk (Q4X (T := "str") rfl (bnk T.m_isinstance) (bnk T.m_str) (Xs 0)))) (V9 (Q2r rfl (takes_of rfl rfl rfl rfl) (T.ex.xc (c := "NoText"))) (K9)) (K9)) (V9 (QeY (own:=[("line",2)]) rfl (tgk 1 S.nd) rfl S.nd rfl rfl (K1 (NV.ev (Q2j (Xs 0) (Ya)))) (K8 (N:=["text", "rows", "line", "word", "heads", "blocks", "sizes", "first", "behind", "row", "found"]) (sc:=defScope Za) (by decide +kernel)) (QjN (takes_of rfl rfl rfl rfl)) rfl rfl rfl (fun _ _ _ _ _ _ _=>Yi (tgk 2 S.nd)) (fun _ _ _ _ _ _ _=>Kf) (fun _ _ _ _ _ _ _ _ t1=>Qis (own:=[("word",3)]) rfl S.nd (K1 (NV.ev (Q2j (Xs 2) (Ya)))) (K8 (N:=["text", "rows", "line", "word", "heads", "blocks", "sizes", "first", "behind", "row", "found"]) rfl) t1 rfl rfl rfl (fun _ _ _ _ _ _ _=>Yi (tgk 3 S.nd)) (fun _ _ _ _ _ _ _=>Kf) (fun _ _ _ _ _ _ _ _ t2=>QfG (Q3d (fun σ=>QjX t2 σ) (k_number_in.kn hr hG) (Q0Q (Q3C (Xs 3)) (Q1T)))))) (V9 (Q6j (WV.tv (Q2s (Yx (Q0O h65).op Ye (V4 (bnk T.m_len) Wq Ws (Xj (Xs 1) (Xx))) (Xk)) (Q2s (Yx (Q0O h65).op Ye (V4 (bnk T.m_len) Wq Ws (Xj (V3 h1 (Xs 1) (Xk)) (Xx))) (Xk)) (Q2L (Zn (Zk (Ys (k_is_shape.kn hr hG) (Xy (V3 h1 (V3 h1 (Xs 1) (Xk)) (Xk)) (Xy (V3 h1 (V3 h1 (Xs 1) (Xk)) (Xk)) (Yb)))))))))) (V9 (Q2r rfl (takes_of rfl rfl rfl rfl) (T.ex.xc (c := "NoText"))) (K9)) (K9)) (V9 (Q9o (QaS rfl (by decide) (V3 h1 (Xs 1) (Xk)) (Vl (Yi (tgk 4 S.nd)) (Vl (Yi (tgk 5 S.nd)) (Q0h))))) (V9 (Q9o (QcS (own:=[("first",7),("behind",8)]) rfl S.nd rfl rfl rfl (K1 (NV.ev (QfH (k_lines_of.kn hr hG) (Xy (Xs 4) (Xy (Xs 5) (Yb)))))) (K8 (N:=["text", "rows", "line", "word", "heads", "blocks", "sizes", "first", "behind", "row", "found"]) (sc:=defScope Za) (by decide +kernel)) (fun _ _ _ _ _=>Q8Z rfl (Vl (Yi (tgk 7 S.nd)) (Vl (Yi (tgk 8 S.nd)) (Q0h)))) (fun _ _ _ _ _=>Kf) (fun _ _ _ _ _=>Xt op_sub K2 (Xs 8) (Xs 7)) (by intro _; rfl) (by decide) (by decide) rfl)) (V9 (Q6j (Yx (Q0O h65).op Ye (NV.ev (Q1L (own:=[("row",9)]) rfl S.nd (K1 (Yl (Xs 1) (Yp (Xk)) (Va))) (K8 (N:=["text", "rows", "line", "word", "heads", "blocks", "sizes", "first", "behind", "row", "found"]) (sc:=defScope Za) (by decide +kernel)) (fun _ _ _ _ _=>Yi (tgk 9 S.nd)) (fun _ _ _ _ _=>Kf) (fun _ _ _ _ _=>V4 (bnk T.m_len) Wq Ws (Xj (Xs 9) (Xx))))) (Ww 6)) (V9 (Q2r rfl (takes_of rfl rfl rfl rfl) (T.ex.xc (c := "NoText"))) (K9)) (K9)) (V9 (Q9o (V0 rfl (tgk 10 S.nd) (Wu (Xj (Xs 4) (Xj (Xs 5) (Xj (K0 (bnk T.m_tuple) Q3q Q3m (Xj (Xt Xw Xv (Xt Xw Xv (Xt Xw Xv (V3 h1 (Xs 1) (Xk)) (V3 h1 (Xs 1) (Xk))) (V3 h1 (Xs 1) (Xk))) (V3 h1 (Xs 1) (Xk))) (Xx))) (Xx))))))) (V9 (Q6j (Zn (Zk (Ys (k_is_store.kn hr hG) (Xy (Xs 10) (Yb))))) (V9 (Q2r rfl (takes_of rfl rfl rfl rfl) (T.ex.xc (c := "NoText"))) (K9)) (K9)) (V9 (Qec (Yv (Xs 10))) (K9)))))))))
abbrev Q3I:Stmt:=top 38
theorem Q54:FnScope ["_law_script", "_law_cells"] ["_law_script"] (defScope Q3I):=⟨rfl,rfl,rfl,by decide +kernel,rfl,by decide +kernel,by decide +kernel⟩
theorem Q9U (T:Txt K mg) {f:Addr} {fd:FuncData} (Fu:Fun K "_law_deck" "_law_deck" Q3I f fd) (m:mg "_law_deck" = some (.ref f)):GKD P w K mg base "_law_deck" 1:=by
 refine ⟨f,fd,["_law_script"],Qhr (f1:=f2 Yr (f2 Q17 (fA (g1 Q9n) (Xq (fRd 1) (Yg))) (Xp (.int 2147483629))) (f2 Vx (Xp (.int 48271)) (fA (g1 Zp) (Xq (fRd 1) (Yg))))) Fu Q54 rfl (fun ns=>?_) (fun cd A out s G E hG hr=>?_),m,Fu.kp,Fu.binds fun _ _ _ _ _ _ us hl=>match us,hl with | [_],_=>rfl⟩
 ·exact Qgz ns
 ·have S:=Q54; have h1:=hu1 hr; have h65:=Z9 hr
  exact ⟨Q2z rfl (tgk 1 S.nd) (QdH rfl rfl T.m_list rfl T.m_reversed (nmk 0) rfl rfl),Qi5 (nmk 1) (Q90 (Xt Xw Xv (Xt op_mod Q4K (V4 (bnk T.m_sum) (Q9C rfl) Qc5 (Xj (Ww 1) (Xx))) (Xk)) (Xt Yu Yt (Xk) (V4 (bnk T.m_len) Wq Ws (Xj (Ww 1) (Xx))))) (Q90 Xk Qf6))⟩
abbrev Q3u:Stmt:=top 39
theorem Q5J:FnScope ["_law_deck_here", "_law_most", "_law_cell", "_law_number_here"] ["_law_deck_here", "_law_most"] (defScope Q3u):=⟨rfl,rfl,rfl,by decide +kernel,rfl,by decide +kernel,by decide +kernel⟩
def Qag:List Sl → Option Out:=Xu (QdW 0 (f2 Yr (Q7H 0) (Xp (.int 1)))) (Xu (Vs 2 (Q2n (Qe1 0) (Qev 0) (Q7M 0))) (Xu (sIf (fun δ=>toB (f2 (bD geD) (Xr 2) (f2 Q33 (Xp (.int 10)) (Xp (.int 18))) δ)) (Xu (Q7I (Q5c 0 (f2 Q2Y (Xr 2) (Xr 1)))) (Xu (Vp (f2 Q17 (Xr 2) (Xr 1))) (Ym))) (Ym)) (Xu (Vs 3 (f2 Q17 (f2 Vx (f2 Yr (f2 Yr (f2 Q17 (Xr 2) (Xp (.int 2147483629))) (f2 Vx (Xp (.int 104729)) (Q7H 0))) (Xp (.int 1))) (Xp (.int 48271))) (Xp (.int 2147483647)))) (Xu (Vs 3 (f2 Q17 (f2 Yr (f2 Yr (f2 Vx (Xr 3) (Xr 3)) (f2 Vx (Xp (.int 69621)) (Q7H 0))) (Xp (.int 7))) (Xp (.int 2147483587)))) (Xu (Vp (f2 Q17 (f2 Q2Y (f2 Q17 (f2 Vx (Xr 3) (f2 Yr (f2 Q2Y (Xr 3) (Xp (.int 3))) (Xp (.int 39373)))) (Xp (.int 2305843009213693951))) (Xp (.int 128))) (Xr 1))) (Ym))))))
def Y0:List Sl → Option (D × List Sl):=fnF [true,false] 4 .n Qag
theorem Q94 (T:Txt K mg)  {f:Addr} {fd:FuncData} (Fu:Fun K "_law_draw" "_law_draw" Q3u f fd) (m:mg "_law_draw" = some (.ref f)):GK P w K mg base "_law_draw" 1 2 .n Y0:=by
 refine ⟨f,fd,["_law_deck_here", "_law_most"],Wy Fu Q5J rfl (fun cd A out s G E hG hr=>?_),rfl,m,Fu.kp,Fu.binds fun _ _ _ _ _ _ us hl=>match us,hl with | [_,_],_=>rfl⟩
 have S:=Q5J; have h1:=hu1 hr; have h65:=Z9 hr; have h66:=Zi hr; have h67:=Zl hr
 exact Xo (Qjr h1 (nmk 0) (Xt Xw Xv (QbN h1 (nmk 0)) (Xk)) ⟨rfl,rfl,rfl,fun _=>rfl⟩) (Xo (V0 rfl (tgk 2 S.nd) (Q62 (QjI h65 (nmk 0)) (Qj9 h1 (nmk 0)) (Qer h1 (nmk 0) (by intro _ _; rfl) ⟨rfl,rfl⟩))) (Xo (Wp (Yx QkM.op Ye (Xs 2) (Xt op_pow Q4O (Xk) (Xk))) (Xo (Q9I (Qei h1 (nmk 0) (by intro _ _; rfl) (Xt op_fdiv Q6P (Xs 2) (Xs 1)) ⟨rfl,rfl,rfl,rfl,rfl⟩)) (Xo (Yv (Xt op_mod Q4K (Xs 2) (Xs 1))) (Y6))) (Y6)) (Xo (V0 rfl (tgk 3 S.nd) (Xt op_mod Q4K (Xt Yu Yt (Xt Xw Xv (Xt Xw Xv (Xt op_mod Q4K (Xs 2) (Xk)) (Xt Yu Yt (Xk) (QbN h1 (nmk 0)))) (Xk)) (Xk)) (Xk))) (Xo (V0 rfl (tgk 3 S.nd) (Xt op_mod Q4K (Xt Xw Xv (Xt Xw Xv (Xt Yu Yt (Xs 3) (Xs 3)) (Xt Yu Yt (Xk) (QbN h1 (nmk 0)))) (Xk)) (Xk))) (Xo (Yv (Xt op_mod Q4K (Xt op_fdiv Q6P (Xt op_mod Q4K (Xt Yu Yt (Xs 3) (Xt Xw Xv (Xt op_fdiv Q6P (Xs 3) (Xk)) (Xk))) (Xk)) (Xk)) (Xs 1))) (Y6))))))
abbrev Q3N:Stmt:=top 40
theorem Q5x:FnScope ["_law_deck_here", "_law_some"] ["_law_deck_here", "_law_some"] (defScope Q3N):=⟨rfl,rfl,rfl,by decide +kernel,rfl,by decide +kernel,by decide +kernel⟩
def Qav:List Sl → Option Out:=Xu (Vp (f2 W1 (Xr 1) (Yh [] true Y0 (kIo 0 (Y8 (fA (g1 Zp) (Xq (Xr 1) (Yg))) (V2)))))) (Ym)
def V1:List Sl → Option (D × List Sl):=fnF [true,false] 2 .n Qav
theorem Q9v (T:Txt K mg) (k__law_draw:GK P w K mg base "_law_draw" 1 2 .n Y0) {f:Addr} {fd:FuncData} (Fu:Fun K "_law_pick" "_law_pick" Q3N f fd) (m:mg "_law_pick" = some (.ref f)):GK P w K mg base "_law_pick" 2 2 .n V1:=by
 refine ⟨f,fd,["_law_deck_here", "_law_some"],Wy Fu Q5x rfl (fun cd A out s G E hG hr=>?_),rfl,m,Fu.kp,Fu.binds fun _ _ _ _ _ _ us hl=>match us,hl with | [_,_],_=>rfl⟩
 have S:=Q5x; have h1:=hu1 hr; have h65:=Z9 hr; have h66:=Zi hr; have h67:=Zl hr
 exact Xo (Yv (V3 h1 (Xs 1) (Ys (k__law_draw.kn hr hG) (Vf (nmk 0) (Xy (V4 (bnk T.m_len) Wq Ws (Xj (Xs 1) (Xx))) (Yb)))))) (Y6)
abbrev Q2B:Stmt:=top 41
theorem Q4f:FnScope ["_law_deck_here", "_law_way", "_law_heads", "_law_blocks"] ["_law_deck_here"] (defScope Q2B):=⟨rfl,rfl,rfl,by decide +kernel,rfl,by decide +kernel,by decide +kernel⟩
def Q9S:List Sl → Option Out:=Xu (Vs 1 (Yh [] true Y0 (kIo 0 (Y8 (Xp (.int 8)) (V2))))) (Xu (Q7x 2 3 (Xq (f2 Yr (Xp (.int 3)) (Yh [] true Y0 (kIo 0 (Y8 (Xp (.int 5)) (V2))))) (Xq (f2 Yr (Xp (.int 4)) (Yh [] true Y0 (kIo 0 (Y8 (Xp (.int 7)) (V2))))) (Yg)))) (Xu (Vp (f2 W1 (We (Xq (Q0p (Xq (Xr 2) (Xq (Xr 3) (Yg)))) (Xq (Q0p (Xq (Xp (.int 8)) (Xq (Xp (.int 12)) (Yg)))) (Xq (Q0p (Xq (Xp (.int 2)) (Xq (Xp (.int 3)) (Yg)))) (Yg))))) (f2 Yr (fA (g1 QbK) (Xq (f2 (bD eqD) (Xr 1) (Xp (.int 5))) (Yg))) (f2 Vx (Xp (.int 2)) (fA (g1 QbK) (Xq (f2 (bD eqD) (Xr 1) (Xp (.int 3))) (Yg))))))) (Ym)))
def Q0M:List Sl → Option (D × List Sl):=fnF [true] 4 .n Q9S
theorem Q8e (T:Txt K mg) (k__law_draw:GK P w K mg base "_law_draw" 1 2 .n Y0) {f:Addr} {fd:FuncData} (Fu:Fun K "_law_shape" "_law_shape" Q2B f fd) (m:mg "_law_shape" = some (.ref f)):GK P w K mg base "_law_shape" 2 1 .n Q0M:=by
 refine ⟨f,fd,["_law_deck_here"],Wy Fu Q4f rfl (fun cd A out s G E hG hr=>?_),rfl,m,Fu.kp,Fu.binds fun _ _ _ _ _ _ us hl=>match us,hl with | [_],_=>rfl⟩
 have S:=Q4f; have h1:=hu1 hr; have h65:=Z9 hr; have h66:=Zi hr; have h67:=Zl hr
 exact Xo (V0 rfl (tgk 1 S.nd) (Ys (k__law_draw.kn hr hG) (Vf (nmk 0) (Xy (Xk) (Yb))))) (Xo (Q9u rfl rfl rfl (tgk 2 S.nd) (tgk 3 S.nd) (by decide) rfl rfl (Xj (Xt Xw Xv (Xk) (Ys (k__law_draw.kn hr hG) (Vf (nmk 0) (Xy (Xk) (Yb))))) (Xj (Xt Xw Xv (Xk) (Ys (k__law_draw.kn hr hG) (Vf (nmk 0) (Xy (Xk) (Yb))))) (Xx)))) (Xo (Yv (V3 h1 (NV.ev (Ve (Xj (Wu (Xj (Xs 2) (Xj (Xs 3) (Xx)))) (Xj (Wu (Xj (Xk) (Xj (Xk) (Xx)))) (Xj (Wu (Xj (Xk) (Xj (Xk) (Xx)))) (Xx)))))) (Xt Xw Xv (K0 (bnk T.m_int) Qa0 Q92 (Xj (Q2A (Kj h65).op Ye (Xs 1) (Xk)) (Xx))) (Xt Yu Yt (Xk) (K0 (bnk T.m_int) Qa0 Q92 (Xj (Q2A (Kj h65).op Ye (Xs 1) (Xk)) (Xx))))))) (Y6)))
abbrev Q2J:Stmt:=top 42
theorem Q4c:FnScope ["_law_kind", "_law_rows"] ["_law_kind", "_law_rows"] (defScope Q2J):=⟨rfl,rfl,rfl,by decide +kernel,rfl,by decide +kernel,by decide +kernel⟩
def Q9w:List Sl → Option Out:=Xu (Vp (f2 Q2Y (f2 Yr (f2 Vx (Xr 0) (fA (g1 Zp) (Xq (Xr 1) (Yg)))) (Xp (.int 3))) (Xp (.int 4)))) (Ym)
def W9:List Sl → Option (D × List Sl):=fnF [false,false] 2 .n Q9w
theorem Q8l (T:Txt K mg)  {f:Addr} {fd:FuncData} (Fu:Fun K "_law_needs" "_law_needs" Q2J f fd) (m:mg "_law_needs" = some (.ref f)):GK P w K mg base "_law_needs" 1 2 .n W9:=by
 refine ⟨f,fd,["_law_kind", "_law_rows"],Wy Fu Q4c rfl (fun cd A out s G E hG hr=>?_),rfl,m,Fu.kp,Fu.binds fun _ _ _ _ _ _ us hl=>match us,hl with | [_,_],_=>rfl⟩
 have S:=Q4c; have h1:=hu1 hr; have h65:=Z9 hr; have h66:=Zi hr; have h67:=Zl hr
 exact Xo (Yv (Xt op_fdiv Q6P (Xt Xw Xv (Xt Yu Yt (Xs 0) (V4 (bnk T.m_len) Wq Ws (Xj (Xs 1) (Xx)))) (Xk)) (Xk))) (Y6)
abbrev Q1P:Stmt:=top 43
theorem Q57:FnScope ["_law_model_here", "_law_blocks", "_law_head"] ["_law_model_here", "_law_blocks"] (defScope Q1P):=⟨rfl,rfl,rfl,by decide +kernel,rfl,by decide +kernel,by decide +kernel⟩
def Qae:List Sl → Option Out:=Xu (Vp (f2 Q1K (f2 Q1K (Xr 1) (Xp (.int 3))) (fA (g1 Q9n) (Xq (fLc (.nm 2) [2] (fIt (Xr 0)) (fun δ=>toB (f2 (bD neD) (Xr 2) (Xp (.int 2)) δ)) (Yh [] true W9 (Y8 (f2 W1 (f2 W1 (Xr 0) (Xr 2)) (Xp (.int 0))) (Y8 (f2 W1 (f2 W1 (Xr 0) (Xr 2)) (Xp (.int 1))) (V2))))) (Yg))))) (Ym)
def Zg:List Sl → Option (D × List Sl):=fnF [false,false] 3 .n Qae
theorem Q9t (T:Txt K mg) (k__law_needs:GK P w K mg base "_law_needs" 1 2 .n W9) {f:Addr} {fd:FuncData} (Fu:Fun K "_law_left" "_law_left" Q1P f fd) (m:mg "_law_left" = some (.ref f)):GK P w K mg base "_law_left" 2 2 .n Zg:=by
 refine ⟨f,fd,["_law_model_here", "_law_blocks"],Wy Fu Q57 rfl (fun cd A out s G E hG hr=>?_),rfl,m,Fu.kp,Fu.binds fun _ _ _ _ _ _ us hl=>match us,hl with | [_,_],_=>rfl⟩
 have S:=Q57; have h1:=hu1 hr; have h65:=Z9 hr; have h66:=Zi hr; have h67:=Zl hr
 exact Xo (Yv (Xt op_sub K2 (Xt op_sub K2 (Xs 1) (Xk)) (V4 (bnk T.m_sum) (Q9C rfl) Qc5 (Xj (NV.ev (Q1L (own:=[("_law_head",2)]) rfl S.nd (K1 (Xs 0)) (K8 (N:=["_law_model_here", "_law_blocks", "_law_head"]) (sc:=defScope Q1P) (by decide +kernel)) (fun _ _ _ _ _=>Yi (tgk 2 S.nd)) (fun _ _ _ _ _=>Q5m (Yx (Q0O h65).op Ye (Xs 2) (Xk))) (fun _ _ _ _ _=>Ys (k__law_needs.kn hr hG) (Xy (V3 h1 (V3 h1 (Xs 0) (Xs 2)) (Xk)) (Xy (V3 h1 (V3 h1 (Xs 0) (Xs 2)) (Xk)) (Yb)))))) (Xx))))) (Y6)
abbrev Q1h:Stmt:=top 44
theorem Q4s:FnScope ["_law_model_here", "_law_blocks", "_law_folder", "_law_name", "_law_head", "_law_kind", "_law_rows", "_law_more", "_law_room", "_law_one"] ["_law_model_here", "_law_blocks", "_law_folder", "_law_name", "_law_head"] (defScope Q1h):=⟨rfl,rfl,rfl,by decide +kernel,rfl,by decide +kernel,by decide +kernel⟩
def Q9A:List Sl → Option Out:=Xu (Q7E (.cons (.nm 5) (.cons (.nm 6) (.nil))) (fLk 0 (f2 W1 (fRd 0) (Xr 2)))) (Xu (Vs 7 (fA (g1 Qai) (Xq (f2 Yr (Xr 6) (We (Xq (Q0p (Xq (Xr 3) (Xq (Xr 4) (Yg)))) (Yg)))) (Yg)))) (Xu (Vs 8 (f2 (bD leD) (f2 Q1K (Yh [] true W9 (Y8 (Xp (.int 2)) (Y8 (Xr 7) (V2)))) (Yh [] true W9 (Y8 (Xp (.int 2)) (Y8 (Xr 6) (V2))))) (fLk 0 (Yh [0] true Zg (Y8 (fRd 0) (Y8 (Xr 1) (V2))))))) (Xu (sIf (Q7Z (fun δ=>toB (f2 (bD ltD) (fA (g1 Zp) (Xq (Xr 6) (Yg))) (Xp (.int 6)) δ)) (Q7Z (fun δ=>toB ((Xr 8) δ)) (fun δ=>toB (f2 (bD eqD) (fLc (.nm 9) [9] (fIt (Xr 6)) (fun δ=>toB (f2 (bD eqD) (f2 W1 (Xr 9) (Xp (.int 0))) (Xr 3) δ)) (Xr 9)) (We (Yg)) δ)))) (Xu (Q2i 0 (Xr 2) (Q0p (Xq (Xp (.int 2)) (Xq (Xr 7) (Yg))))) (Xu (Vp (Xp (.bool true))) (Ym))) (Ym)) (Xu (Vp (Xp (.bool false))) (Ym)))))
def Zr:List Sl → Option (D × List Sl):=fnF [true,false,false,false,false] 10 .n Q9A
theorem Q8s (T:Txt K mg) (k__law_left:GK P w K mg base "_law_left" 2 2 .n Zg) (k__law_needs:GK P w K mg base "_law_needs" 1 2 .n W9) {f:Addr} {fd:FuncData} (Fu:Fun K "_law_enter" "_law_enter" Q1h f fd) (m:mg "_law_enter" = some (.ref f)):GK P w K mg base "_law_enter" 3 5 .n Zr:=by
 refine ⟨f,fd,["_law_model_here", "_law_blocks", "_law_folder", "_law_name", "_law_head"],Wy Fu Q4s rfl (fun cd A out s G E hG hr=>?_),rfl,m,Fu.kp,Fu.binds fun _ _ _ _ _ _ us hl=>match us,hl with | [_,_,_,_,_],_=>rfl⟩
 have S:=Q4s; have h1:=hu1 hr; have h65:=Z9 hr; have h66:=Zi hr; have h67:=Zl hr
 exact Xo (Q7Q (by decide) (Qda 0 (V3 h1 (Ww 0) (Xs 2))) (Q8Z rfl (Vl (Yi (tgk 5 S.nd)) (Vl (Yi (tgk 6 S.nd)) (Q0h))))) (Xo (V0 rfl (tgk 7 S.nd) (NV.ev (Q75 (bnk T.m_sorted) (Qb2 h67) Qdc (Xj (Xt Xw Xv (Xs 6) (NV.ev (Ve (Xj (Wu (Xj (Xs 3) (Xj (Xs 4) (Xx)))) (Xx))))) (Xx))))) (Xo (V0 rfl (tgk 8 S.nd) (Q2A Q7o.op Ye (Xt op_sub K2 (Ys (k__law_needs.kn hr hG) (Xy (Xk) (Xy (Xs 7) (Yb)))) (Ys (k__law_needs.kn hr hG) (Xy (Xk) (Xy (Xs 6) (Yb))))) (Qda 0 (Ys (k__law_left.kn hr hG) (Xy (Ww 0) (Xy (Xs 1) (Yb))))))) (Xo (Wp (WV.tv (Q76 (Yx (Q3F h65).op Ye (V4 (bnk T.m_len) Wq Ws (Xj (Xs 6) (Xx))) (Xk)) (Q76 (Zk (Xs 8)) (Q6M (Yx (Kj h65).op Ye (NV.ev (Q1L (own:=[("_law_one",9)]) rfl S.nd (K1 (Xs 6)) (K8 (N:=["_law_model_here", "_law_blocks", "_law_folder", "_law_name", "_law_head", "_law_kind", "_law_rows", "_law_more", "_law_room", "_law_one"]) (sc:=defScope Q1h) (by decide +kernel)) (fun _ _ _ _ _=>Yi (tgk 9 S.nd)) (fun _ _ _ _ _=>Q5m (Yx (Kj h65).op Ye (V3 h1 (Xs 9) (Xk)) (Xs 3))) (fun _ _ _ _ _=>Xs 9))) (NV.ev (Ve (Xx)))))))) (Xo (Q0W h1 (nmk 0) (Xs 2) (Wu (Xj (Xk) (Xj (Xs 7) (Xx)))) ⟨rfl,rfl,rfl,fun _=>rfl⟩) (Xo (Yv (Q4g)) (Y6))) (Y6)) (Xo (Yv (Q4g)) (Y6)))))
abbrev Q16:Stmt:=top 45
theorem Q4l:FnScope ["_law_deck_here", "_law_heads", "_law_blocks", "_law_model_here", "_law_folders", "_law_left_here", "_law_head", "_law_way", "_law_times", "_law_folder", "_law_worths", "_law_name", "_law_entered", "_law_k"] ["_law_deck_here", "_law_heads", "_law_blocks"] (defScope Q16):=⟨rfl,rfl,rfl,by decide +kernel,rfl,by decide +kernel,by decide +kernel⟩
def Q9T:List Sl → Option Out:=Xu (Q1c 3 (Q6Y (Q6k (Xp (.int 1)) (Q0p (Xq (Xp (.int 2)) (Xq (We (Yg)) (Yg)))) (Q6k (Xp (.int 2)) (Q0p (Xq (Xp (.int 2)) (Xq (We (Yg)) (Yg)))) (Qf8))))) (Xu (Q1c 4 (We (Xq (Xp (.int 1)) (Yg)))) (Xu (Q1c 5 (f2 rgD (Xp (.int 3)) (f2 Yr (Xr 1) (Xp (.int 1))))) (Xu (Q63 [6,7,8,9,10,11,12,13] (Q2e (fun δ=>toB (f2 (bD neD) (fRd 5) (We (Yg)) δ)) (Xu (Vs 6 (Q69 5 (Yh [] true Y0 (kIo 0 (Y8 (fA (g1 Zp) (Xq (fRd 5) (Yg))) (V2)))))) (Xu (Vs 7 (Yh [] true Y0 (kIo 0 (Y8 (Xp (.int 6)) (V2))))) (Xu (Vs 8 (Yh [] true V1 (kIo 0 (Y8 (We (Xq (Xp (.int 1)) (Xq (Xp (.int 1)) (Xq (Xp (.int 2)) (Xq (Xp (.int 3)) (Yg)))))) (V2))))) (Xu (Vs 9 (Yh [4] true V1 (kIo 0 (Y8 (fRd 4) (V2))))) (Xu (sIf (fun δ=>toB (f2 (bD eqD) (Xr 7) (Xp (.int 0)) δ)) (Xu (QbI [6,7,8,9,10,11,12,13]) (Ym)) (Ym)) (Xu (Q1c 10 (fLc (.nm 13) [13] (Q4a (Xq (Yh [] true Y0 (kIo 0 (Y8 (Xp (.int 13)) (V2)))) (Yg))) (Q0C) (Yh [] true Y0 (kIo 0 (Y8 (Xp (.int 100)) (V2)))))) (Xu (Q2i 3 (Xr 6) (Q2n (fun δ=>toB (f2 (bD ltD) (Xr 7) (Xp (.int 3)) δ)) (Q0p (Xq (Xp (.int 2)) (Xq (We (Yg)) (Yg)))) (Q0p (Xq (Xp (.int 1)) (Xq (f3 Wx (fRd 10) (Wa) (Vd (f2 Vx (Xp (.int 4)) (fLk 3 (Yh [3] true Zg (Y8 (fRd 3) (Y8 (Xr 2) (V2)))))))) (Yg)))))) (Xu (Vs 11 (f2 Yr (Xp (.int 1)) (Yh [] true Y0 (kIo 0 (Y8 (Xp (.int 99)) (V2)))))) (Xu (Vs 12 (Q7D (f2 (bD neD) (Xr 7) (Xp (.int 5))) (Yh [] true Zr (kIo 3 (Y8 (Xr 2) (Y8 (Xr 9) (Y8 (Xr 11) (Y8 (Xr 6) (V2))))))))) (Xu (sIf (Q1G (fun δ=>toB ((Xr 12) δ))) (Xu (Q2i 3 (Xp (.int 2)) (Q0p (Xq (Xp (.int 2)) (Xq (fA (g1 Qai) (Xq (f2 Yr (f2 W1 (fLk 3 (f2 W1 (fRd 3) (Xp (.int 2)))) (Xp (.int 1))) (We (Xq (Q0p (Xq (Xr 6) (Xq (Xr 6) (Yg)))) (Yg)))) (Yg))) (Yg))))) (Ym)) (Ym)) (Xu (Q63 [13] (Q1H (.nm 13) (Q4a (Xq (f2 Vx (f2 Q1K (Xr 8) (Xp (.int 1))) (fA (g1 QbK) (Xq (f2 (bD gtD) (Xr 7) (Xp (.int 2))) (Yg)))) (Yg))) (Xu (Q7I (Yh [] true Zr (kIo 3 (Y8 (Xr 2) (Y8 (Yh [4] true V1 (kIo 0 (Y8 (fRd 4) (V2)))) (Y8 (f2 Yr (Xp (.int 1)) (Yh [] true Y0 (kIo 0 (Y8 (Xp (.int 99)) (V2))))) (Y8 (Xr 6) (V2)))))))) (Q08 [13])))) (Xu (sIf (fun δ=>toB (f2 (bD ltD) (Xr 7) (Xp (.int 3)) δ)) (Xu (Q7I (Qf4 4 (Xr 6))) (Ym)) (Ym)) (Q08 [6,7,8,9,10,11,12,13]))))))))))))) 100)) (Xu (Q8R 3) (Ym)))))
def Q0K:List Sl → Option (D × List Sl):=fnF [true,false,false] 14 .l Q9T
theorem Q8h (T:Txt K mg) (k__law_draw:GK P w K mg base "_law_draw" 1 2 .n Y0) (k__law_enter:GK P w K mg base "_law_enter" 3 5 .n Zr) (k__law_left:GK P w K mg base "_law_left" 2 2 .n Zg) (k__law_pick:GK P w K mg base "_law_pick" 2 2 .n V1) {f:Addr} {fd:FuncData} (Fu:Fun K "_law_model" "_law_model" Q16 f fd) (m:mg "_law_model" = some (.ref f)):GK P w K mg base "_law_model" 4 3 .l Q0K:=by
 refine ⟨f,fd,["_law_deck_here", "_law_heads", "_law_blocks"],Wy Fu Q4l rfl (fun cd A out s G E hG hr=>?_),rfl,m,Fu.kp,Fu.binds fun _ _ _ _ _ _ us hl=>match us,hl with | [_,_,_],_=>rfl⟩
 have S:=Q4l; have h1:=hu1 hr; have h65:=Z9 hr; have h66:=Zi hr; have h67:=Zl hr
 exact Xo (Q2z rfl (tgk 3 S.nd) (Q9W (Q6K (Xk) (Wu (Xj (Xk) (Xj (NV.ev (Ve (Xx))) (Xx)))) (Q6K (Xk) (Wu (Xj (Xk) (Xj (NV.ev (Ve (Xx))) (Xx)))) (QbA))))) (Xo (Q2z rfl (tgk 4 S.nd) (Ve (Xj (Xk) (Xx)))) (Xo (Q2z rfl (tgk 5 S.nd) (Qd0 rfl T.m_list T.m_range (Xk) (Xt Xw Xv (Xs 1) (Xk)))) (Xo (Q1w rfl (Qg3 (passes_of rfl) (Yx (Q0O h65).op Ye (Ww 5) (NV.ev (Ve (Xx)))) (Xo (V0 rfl (tgk 6 S.nd) (Qax (nmk 5) (Ys (k__law_draw.kn hr hG) (Vf (nmk 0) (Xy (V4 (bnk T.m_len) Wq Ws (Xj (Ww 5) (Xx))) (Yb)))) ⟨rfl,rfl,rfl,rfl,rfl⟩)) (Xo (V0 rfl (tgk 7 S.nd) (Ys (k__law_draw.kn hr hG) (Vf (nmk 0) (Xy (Xk) (Yb))))) (Xo (V0 rfl (tgk 8 S.nd) (Ys (k__law_pick.kn hr hG) (Vf (nmk 0) (Xy (NV.ev (Ve (Xj (Xk) (Xj (Xk) (Xj (Xk) (Xj (Xk) (Xx))))))) (Yb))))) (Xo (V0 rfl (tgk 9 S.nd) (Ys (k__law_pick.kn hr hG) (Vf (nmk 0) (Xy (Ww 4) (Yb))))) (Xo (Wp (Yx (Kj h65).op Ye (Xs 7) (Xk)) (Xo (QfF rfl) (Y6)) (Y6)) (Xo (QcS (own:=[("_law_k",13)]) rfl S.nd rfl rfl rfl (Q0z rfl T.m_range (Xj (Ys (k__law_draw.kn hr hG) (Vf (nmk 0) (Xy (Xk) (Yb)))) (Xx)) rfl (Q2M (Q4V))) (K8 (N:=["_law_deck_here", "_law_heads", "_law_blocks", "_law_model_here", "_law_folders", "_law_left_here", "_law_head", "_law_way", "_law_times", "_law_folder", "_law_worths", "_law_name", "_law_entered", "_law_k"]) (sc:=defScope Q16) (by decide +kernel)) (fun _ _ _ _ _=>Yi (tgk 13 S.nd)) (fun _ _ _ _ _=>Kf) (fun _ _ _ _ _=>Ys (k__law_draw.kn hr hG) (Vf (nmk 0) (Xy (Xk) (Yb)))) (by intro _; rfl) (by decide) (by decide) rfl) (Xo (Q0W h1 (nmk 3) (Xs 6) (Q62 (Yx (Q3F h65).op Ye (Xs 7) (Xk)) (Wu (Xj (Xk) (Xj (NV.ev (Ve (Xx))) (Xx)))) (Wu (Xj (Xk) (Xj (Yl (Ww 10) (Va) (Yp (Xt Yu Yt (Xk) (Qda 3 (Ys (k__law_left.kn hr hG) (Xy (Ww 3) (Xy (Xs 2) (Yb)))))))) (Xx))))) ⟨rfl,rfl,rfl,fun _=>rfl⟩) (Xo (V0 rfl (tgk 11 S.nd) (Xt Xw Xv (Xk) (Ys (k__law_draw.kn hr hG) (Vf (nmk 0) (Xy (Xk) (Yb)))))) (Xo (V0 rfl (tgk 12 S.nd) (Q7a (Q2A (Q0O h65).op Ye (Xs 7) (Xk)) (Q6N (Ys (k__law_enter.kn hr hG) (Vf (nmk 3) (Xy (Xs 2) (Xy (Xs 9) (Xy (Xs 11) (Xy (Xs 6) (Yb)))))))))) (Xo (Wp (Zn (Zk (Xs 12))) (Xo (Q0W h1 (nmk 3) (Xk) (Wu (Xj (Xk) (Xj (NV.ev (Q75 (bnk T.m_sorted) (Qb2 h67) Qdc (Xj (Xt Xw Xv (V3 h1 (Qda 3 (V3 h1 (Ww 3) (Xk))) (Xk)) (NV.ev (Ve (Xj (Wu (Xj (Xs 6) (Xj (Xs 6) (Xx)))) (Xx))))) (Xx)))) (Xx)))) ⟨rfl,rfl,rfl,fun _=>rfl⟩) (Y6)) (Y6)) (Xo (Q1w rfl (Q27 (passes_of rfl) rfl (Q0z rfl T.m_range (Xj (Xt Yu Yt (Xt op_sub K2 (Xs 8) (Xk)) (K0 (bnk T.m_int) Qa0 Q92 (Xj (Q2A Qd1.op Ye (Xs 7) (Xk)) (Xx)))) (Xx)) rfl (Q2M (Q4V))) (Yi (tgk 13 S.nd)) (by decide) (Xo (Q9I (Ys (k__law_enter.kn hr hG) (Vf (nmk 3) (Xy (Xs 2) (Xy (Ys (k__law_pick.kn hr hG) (Vf (nmk 0) (Xy (Ww 4) (Yb)))) (Xy (Xt Xw Xv (Xk) (Ys (k__law_draw.kn hr hG) (Vf (nmk 0) (Xy (Xk) (Yb))))) (Xy (Xs 6) (Yb)))))))) (Zb rfl)))) (Xo (Wp (Yx (Q3F h65).op Ye (Xs 7) (Xk)) (Xo (Q9I (Qjt (nmk 4) (Xs 6) ⟨rfl,rfl,rfl,rfl,rfl⟩)) (Y6)) (Y6)) (Zb rfl))))))))))))))) (Xo (Qdg (i:=3) rfl rfl (by first | exact .inl rfl | exact .inr (.inl rfl)) (by decide) (by decide)) (Y6)))))
abbrev Q18:Stmt:=top 46
theorem Q4n:FnScope ["_law_deck_here", "_law_model_here", "_law_blocks", "_law_left_here", "_law_given_here", "_law_head", "_law_many", "_law_k"] ["_law_deck_here", "_law_model_here", "_law_blocks"] (defScope Q18):=⟨rfl,rfl,rfl,by decide +kernel,rfl,by decide +kernel,by decide +kernel⟩
def Qa4:List Sl → Option Out:=Xu (Q1c 3 (f2 rgD (Xp (.int 4)) (f2 Yr (Xr 2) (Xp (.int 1))))) (Xu (Q1c 4 (Q6Y (Q6k (Xp (.int 2)) (We (Xq (Xp (.int 1)) (Xq (Xp (.int 2)) (Xq (Xp (.int 3)) (Yg))))) (Qf8)))) (Xu (Q63 [5,6] (Q1H (.nm 5) (fIt (fA (g1 Q9e) (Xq (Xr 1) (Yg)))) (Xu (sIf (fun δ=>toB (f2 (bD neD) (Xr 5) (Xp (.int 2)) δ)) (Xu (Vs 6 (Yh [] true W9 (Y8 (f2 W1 (f2 W1 (Xr 1) (Xr 5)) (Xp (.int 0))) (Y8 (f2 W1 (f2 W1 (Xr 1) (Xr 5)) (Xp (.int 1))) (V2))))) (Xu (Q2i 4 (Xr 5) (fLc (.nm 7) [7] (Q4a (Xq (Xr 6) (Yg))) (Q0C) (Q69 3 (Yh [] true Y0 (kIo 0 (Y8 (fA (g1 Zp) (Xq (fRd 3) (Yg))) (V2))))))) (Q08 [6]))) (Q08 [6])) (Q08 [5,6])))) (Xu (Q8R 4) (Ym))))
def Q0J:List Sl → Option (D × List Sl):=fnF [true,false,false] 8 .l Qa4
theorem Q8o (T:Txt K mg) (k__law_draw:GK P w K mg base "_law_draw" 1 2 .n Y0) (k__law_needs:GK P w K mg base "_law_needs" 1 2 .n W9) {f:Addr} {fd:FuncData} (Fu:Fun K "_law_given" "_law_given" Q18 f fd) (m:mg "_law_given" = some (.ref f)):GK P w K mg base "_law_given" 2 3 .l Q0J:=by
 refine ⟨f,fd,["_law_deck_here", "_law_model_here", "_law_blocks"],Wy Fu Q4n rfl (fun cd A out s G E hG hr=>?_),rfl,m,Fu.kp,Fu.binds fun _ _ _ _ _ _ us hl=>match us,hl with | [_,_,_],_=>rfl⟩
 have S:=Q4n; have h1:=hu1 hr; have h65:=Z9 hr; have h66:=Zi hr; have h67:=Zl hr
 exact Xo (Q2z rfl (tgk 3 S.nd) (Qd0 rfl T.m_list T.m_range (Xk) (Xt Xw Xv (Xs 2) (Xk)))) (Xo (Q2z rfl (tgk 4 S.nd) (Q9W (Q6K (Xk) (NV.ev (Ve (Xj (Xk) (Xj (Xk) (Xj (Xk) (Xx)))))) (QbA)))) (Xo (Q1w rfl (Q27 (passes_of rfl) rfl (K1 (NV.ev (Q75 (bnk T.m_sorted) (QdO rfl) Qfi (Xj (Xs 1) (Xx))))) (Yi (tgk 5 S.nd)) (by decide) (Xo (Wp (Yx (Q0O h65).op Ye (Xs 5) (Xk)) (Xo (V0 rfl (tgk 6 S.nd) (Ys (k__law_needs.kn hr hG) (Xy (V3 h1 (V3 h1 (Xs 1) (Xs 5)) (Xk)) (Xy (V3 h1 (V3 h1 (Xs 1) (Xs 5)) (Xk)) (Yb))))) (Xo (Q0W h1 (nmk 4) (Xs 5) (NV.ev (Q1L (own:=[("_law_k",7)]) rfl S.nd (Q0z rfl T.m_range (Xj (Xs 6) (Xx)) rfl (Q2M (Q4V))) (K8 (N:=["_law_deck_here", "_law_model_here", "_law_blocks", "_law_left_here", "_law_given_here", "_law_head", "_law_many", "_law_k"]) (sc:=defScope Q18) (by decide +kernel)) (fun _ _ _ _ _=>Yi (tgk 7 S.nd)) (fun _ _ _ _ _=>Kf) (fun _ _ _ _ _=>Qax (nmk 3) (Ys (k__law_draw.kn hr hG) (Vf (nmk 0) (Xy (V4 (bnk T.m_len) Wq Ws (Xj (Ww 3) (Xx))) (Yb)))) ⟨rfl,rfl,rfl,rfl,rfl⟩))) ⟨rfl,rfl,rfl,fun _=>rfl⟩) (Zb rfl))) (Zb rfl)) (Zb rfl)))) (Xo (Qdg (i:=4) rfl rfl (by first | exact .inl rfl | exact .inr (.inl rfl)) (by decide) (by decide)) (Y6))))
abbrev Q3p:Stmt:=top 47
theorem Q5k:FnScope ["_law_heads", "_law_blocks", "_law_model_here", "_law_given_here", "_law_cells", "_law_head", "_law_row", "_law_kind", "_law_rows", "_law_name", "_law_other", "_law_j", "_law_block", "_law_k", "_law_worth"] ["_law_heads", "_law_blocks", "_law_model_here", "_law_given_here"] (defScope Q3p):=⟨rfl,rfl,rfl,by decide +kernel,rfl,by decide +kernel,by decide +kernel⟩
def QaY:List Sl → Option Out:=Xu (Q1c 4 (f2 Qca (We (Xq (Xp (.int 0)) (Yg))) (f2 Yr (f2 Yr (f2 Vx (Xp (.int 7)) (Xr 0)) (f2 Vx (Xp (.int 5)) (Xr 1))) (Xp (.int 82))))) (Xu (Q63 [5,6,7,8,9,10,11,12,13,14] (Q1H (.nm 5) (fIt (Xr 2)) (Xu (Q7E (.cons (.nm 7) (.cons (.nm 8) (.nil))) (f2 W1 (Xr 2) (Xr 5))) (Xu (Q1c 6 (Q2n (fun δ=>toB (f2 (bD eqD) (Xr 7) (Xp (.int 1)) δ)) (fA (g1 Q8O) (Xq (Xr 8) (Yg))) (We (Yg)))) (Xu (Q63 [9,10] (Q1H (.cons (.nm 9) (.cons (.nm 10) (.nil))) (fIt (Q2n (fun δ=>toB (f2 (bD eqD) (Xr 7) (Xp (.int 2)) δ)) (Xr 8) (We (Yg)))) (Xu (Q7I (Qew 6 (We (Xq (Xr 9) (Xq (Xr 10) (Yg)))))) (Xu (Q2i 4 (f2 Q1K (f2 Vx (Xp (.int 7)) (Xr 10)) (Xp (.int 6))) (f2 Yr (f2 W1 (fRd 4) (f2 Q1K (f2 Vx (Xp (.int 7)) (Xr 10)) (Xp (.int 6)))) (Xp (.int 1)))) (Q08 [9,10]))))) (Xu (Q2i 4 (f2 Q1K (f2 Vx (Xp (.int 7)) (Xr 5)) (Xp (.int 7))) (Xr 7)) (Xu (Q2i 4 (f2 Q1K (f2 Vx (Xp (.int 7)) (Xr 5)) (Xp (.int 5))) (fA (g1 Zp) (Xq (fRd 6) (Yg)))) (Xu (Q2i 4 (f2 Q1K (f2 Vx (Xp (.int 7)) (Xr 5)) (Xp (.int 4))) (fA (g1 Q9n) (Xq (fRd 6) (Yg)))) (Xu (Q63 [11,12,13,14] (Q1H (.cons (.nm 11) (.cons (.nm 12) (.nil))) (Q6E (f2 W1 (Xr 3) (Xr 5))) (Xu (Q2i 4 (f2 Yr (f2 Q1K (f2 Vx (Xp (.int 7)) (Xr 5)) (Xp (.int 3))) (Xr 11)) (Xr 12)) (Xu (Q2i 4 (f2 Q1K (f2 Yr (f2 Vx (Xp (.int 7)) (Xr 0)) (Xr 12)) (Xp (.int 1))) (Xp (.int 1))) (Xu (Q63 [13,14] (Q1H (.cons (.nm 13) (.cons (.nm 14) (.nil))) (Q6E (f3 Wx (fRd 6) (Vd (f2 Vx (Xp (.int 4)) (Xr 11))) (Vd (f2 Yr (f2 Vx (Xp (.int 4)) (Xr 11)) (Xp (.int 4)))))) (Xu (Q2i 4 (f2 Yr (f2 Q1K (f2 Yr (f2 Yr (f2 Vx (Xp (.int 7)) (Xr 0)) (Xr 1)) (f2 Vx (Xp (.int 4)) (Xr 12))) (Xp (.int 4))) (Xr 13)) (Xr 14)) (Q08 [13,14])))) (Q08 [11,12,13,14])))))) (Q08 [5,6,7,8,9,10,11,12,13,14])))))))))) (Xu (Vp (Q0p (Xq (Xr 0) (Xq (Xr 1) (Xq (fA (g1 QaO) (Xq (fRd 4) (Yg))) (Yg)))))) (Ym)))
def Q1f:List Sl → Option (D × List Sl):=fnF [false,false,false,false] 15 .n QaY
theorem Qa7 (T:Txt K mg)  {f:Addr} {fd:FuncData} (Fu:Fun K "_law_laid" "_law_laid" Q3p f fd) (m:mg "_law_laid" = some (.ref f)):GK P w K mg base "_law_laid" 1 4 .n Q1f:=by
 refine ⟨f,fd,["_law_heads", "_law_blocks", "_law_model_here", "_law_given_here"],Wy Fu Q5k rfl (fun cd A out s G E hG hr=>?_),rfl,m,Fu.kp,Fu.binds fun _ _ _ _ _ _ us hl=>match us,hl with | [_,_,_,_],_=>rfl⟩
 have S:=Q5k; have h1:=hu1 hr; have h65:=Z9 hr; have h66:=Zi hr; have h67:=Zl hr
 exact Xo (Q2z rfl (tgk 4 S.nd) (Qkd op_rep QiW (NV.ev (Ve (Xj (Xk) (Xx)))) (Xt Xw Xv (Xt Xw Xv (Xt Yu Yt (Xk) (Xs 0)) (Xt Yu Yt (Xk) (Xs 1))) (Xk)))) (Xo (Q1w rfl (Q27 (passes_of rfl) rfl (K1 (Xs 2)) (Yi (tgk 5 S.nd)) (by decide) (Xo (Q7Q (by decide) (V3 h1 (Xs 2) (Xs 5)) (Q8Z rfl (Vl (Yi (tgk 7 S.nd)) (Vl (Yi (tgk 8 S.nd)) (Q0h))))) (Xo (Q2z rfl (tgk 6 S.nd) (QiL (Yx (Kj h65).op Ye (Xs 7) (Xk)) (Qab (bnk T.m_list) QcT Qd3 (Xj (Xs 8) (Xx))) (Ve (Xx)))) (Xo (Q1w rfl (Q27 (passes_of rfl) rfl (K1 (Q62 (Yx (Kj h65).op Ye (Xs 7) (Xk)) (Xs 8) (NV.ev (Ve (Xx))))) (Q8Z rfl (Vl (Yi (tgk 9 S.nd)) (Vl (Yi (tgk 10 S.nd)) (Q0h)))) (by decide) (Xo (Q9I (Qit (nmk 6) (NV.ev (Ve (Xj (Xs 9) (Xj (Xs 10) (Xx))))) ⟨rfl,rfl,rfl,rfl,rfl⟩)) (Xo (Q0W h1 (nmk 4) (Xt op_sub K2 (Xt Yu Yt (Xk) (Xs 10)) (Xk)) (Xt Xw Xv (V3 h1 (Ww 4) (Xt op_sub K2 (Xt Yu Yt (Xk) (Xs 10)) (Xk))) (Xk)) ⟨rfl,rfl,rfl,fun _=>rfl⟩) (Zb rfl))))) (Xo (Q0W h1 (nmk 4) (Xt op_sub K2 (Xt Yu Yt (Xk) (Xs 5)) (Xk)) (Xs 7) ⟨rfl,rfl,rfl,fun _=>rfl⟩) (Xo (Q0W h1 (nmk 4) (Xt op_sub K2 (Xt Yu Yt (Xk) (Xs 5)) (Xk)) (V4 (bnk T.m_len) Wq Ws (Xj (Ww 6) (Xx))) ⟨rfl,rfl,rfl,fun _=>rfl⟩) (Xo (Q0W h1 (nmk 4) (Xt op_sub K2 (Xt Yu Yt (Xk) (Xs 5)) (Xk)) (V4 (bnk T.m_sum) (Q9C rfl) Qc5 (Xj (Ww 6) (Xx))) ⟨rfl,rfl,rfl,fun _=>rfl⟩) (Xo (Q1w rfl (Q27 (passes_of rfl) rfl (QcR rfl T.m_enumerate (V3 h1 (Xs 3) (Xs 5))) (Q8Z rfl (Vl (Yi (tgk 11 S.nd)) (Vl (Yi (tgk 12 S.nd)) (Q0h)))) (by decide) (Xo (Q0W h1 (nmk 4) (Xt Xw Xv (Xt op_sub K2 (Xt Yu Yt (Xk) (Xs 5)) (Xk)) (Xs 11)) (Xs 12) ⟨rfl,rfl,rfl,fun _=>rfl⟩) (Xo (Q0W h1 (nmk 4) (Xt op_sub K2 (Xt Xw Xv (Xt Yu Yt (Xk) (Xs 0)) (Xs 12)) (Xk)) (Xk) ⟨rfl,rfl,rfl,fun _=>rfl⟩) (Xo (Q1w rfl (Q27 (passes_of rfl) rfl (QcR rfl T.m_enumerate (Yl (Ww 6) (Yp (Xt Yu Yt (Xk) (Xs 11))) (Yp (Xt Xw Xv (Xt Yu Yt (Xk) (Xs 11)) (Xk))))) (Q8Z rfl (Vl (Yi (tgk 13 S.nd)) (Vl (Yi (tgk 14 S.nd)) (Q0h)))) (by decide) (Xo (Q0W h1 (nmk 4) (Xt Xw Xv (Xt op_sub K2 (Xt Xw Xv (Xt Xw Xv (Xt Yu Yt (Xk) (Xs 0)) (Xs 1)) (Xt Yu Yt (Xk) (Xs 12))) (Xk)) (Xs 13)) (Xs 14) ⟨rfl,rfl,rfl,fun _=>rfl⟩) (Zb rfl)))) (Zb rfl)))))) (Zb rfl)))))))))) (Xo (Yv (Wu (Xj (Xs 0) (Xj (Xs 1) (Xj (K0 (bnk T.m_tuple) Q3q Q3m (Xj (Ww 4) (Xx))) (Xx)))))) (Y6)))
abbrev Q2H:Stmt:=top 48
theorem Q4p:FnScope ["_law_deck_here", "_law_heads", "_law_blocks", "_law_model_here"] ["_law_deck_here"] (defScope Q2H):=⟨rfl,rfl,rfl,by decide +kernel,rfl,by decide +kernel,by decide +kernel⟩
def Q9O:List Sl → Option Out:=Xu (Q7E (.cons (.nm 1) (.cons (.nm 2) (.nil))) (Yh [] true Q0M (kIo 0 (V2)))) (Xu (Vs 3 (Yh [] true Q0K (kIo 0 (Y8 (Xr 1) (Y8 (Xr 2) (V2)))))) (Xu (Vp (Yh [] true Q1f (Y8 (Xr 1) (Y8 (Xr 2) (Y8 (Xr 3) (Y8 (Yh [] true Q0J (kIo 0 (Y8 (Xr 3) (Y8 (Xr 2) (V2))))) (V2))))))) (Ym)))
def Q0G:List Sl → Option (D × List Sl):=fnF [true] 4 .n Q9O
theorem Q8q (T:Txt K mg) (k__law_given:GK P w K mg base "_law_given" 2 3 .l Q0J) (k__law_laid:GK P w K mg base "_law_laid" 1 4 .n Q1f) (k__law_model:GK P w K mg base "_law_model" 4 3 .l Q0K) (k__law_shape:GK P w K mg base "_law_shape" 2 1 .n Q0M) {f:Addr} {fd:FuncData} (Fu:Fun K "_law_sound" "_law_sound" Q2H f fd) (m:mg "_law_sound" = some (.ref f)):GK P w K mg base "_law_sound" 5 1 .n Q0G:=by
 refine ⟨f,fd,["_law_deck_here"],Wy Fu Q4p rfl (fun cd A out s G E hG hr=>?_),rfl,m,Fu.kp,Fu.binds fun _ _ _ _ _ _ us hl=>match us,hl with | [_],_=>rfl⟩
 have S:=Q4p; have h1:=hu1 hr; have h65:=Z9 hr; have h66:=Zi hr; have h67:=Zl hr
 exact Xo (Q7Q (by decide) (Ys (k__law_shape.kn hr hG) (Vf (nmk 0) (Yb))) (Q8Z rfl (Vl (Yi (tgk 1 S.nd)) (Vl (Yi (tgk 2 S.nd)) (Q0h))))) (Xo (V0 rfl (tgk 3 S.nd) (NV.ev (QfH (k__law_model.kn hr hG) (Vf (nmk 0) (Xy (Xs 1) (Xy (Xs 2) (Yb))))))) (Xo (Yv (Ys (k__law_laid.kn hr hG) (Xy (Xs 1) (Xy (Xs 2) (Xy (Xs 3) (Xy (NV.ev (QfH (k__law_given.kn hr hG) (Vf (nmk 0) (Xy (Xs 3) (Xy (Xs 2) (Yb)))))) (Yb))))))) (Y6)))
abbrev Q2b:Stmt:=top 49
theorem Q3o:FnScope ["_law_deck_here", "_law_way", "_law_number_here", "_law_k"] ["_law_deck_here"] (defScope Q2b):=⟨rfl,rfl,rfl,by decide +kernel,rfl,by decide +kernel,by decide +kernel⟩
def Q8p:List Sl → Option Out:=Xu (Vs 1 (Yh [] true Y0 (kIo 0 (Y8 (Xp (.int 8)) (V2))))) (Xu (sIf (fun δ=>toB (f2 (bD ltD) (Xr 1) (Xp (.int 4)) δ)) (Xu (Vp (Yh [] true Y0 (kIo 0 (Y8 (Xp (.int 4)) (V2))))) (Ym)) (Ym)) (Xu (sIf (fun δ=>toB (f2 (bD ltD) (Xr 1) (Xp (.int 6)) δ)) (Xu (Vp (f2 Q1K (Yh [] true Y0 (kIo 0 (Y8 (Xp (.int 120)) (V2)))) (Xp (.int 10)))) (Ym)) (Ym)) (Xu (Vs 2 (Xp (.int 0))) (Xu (Q63 [3] (Q1H (.nm 3) (Q4a (Xq (f2 W1 (We (Xq (Xp (.int 2)) (Xq (Xp (.int 6)) (Yg)))) (f2 Q1K (Xr 1) (Xp (.int 6)))) (Yg))) (Xu (Vs 2 (f2 Yr (f2 Vx (Xr 2) (f2 Q33 (Xp (.int 10)) (Xp (.int 6)))) (Yh [] true Y0 (kIo 0 (Y8 (f2 Q33 (Xp (.int 10)) (Xp (.int 6))) (V2)))))) (Q08 [3])))) (Xu (Vp (f2 W1 (We (Xq (Xr 2) (Xq (f2 Q1K (Xp (.int 0)) (Xr 2)) (Xq (f2 Yr (f2 Q33 (Xp (.int 10)) (Xp (.int 39))) (Xr 2)) (Xq (f2 Q1K (f2 Q33 (Xp (.int 10)) (Xp (.int 40))) (Xp (.int 1))) (Xq (f2 Q1K (Xp (.int 0)) (Xr 2)) (Xq (f2 Q1K (Xp (.int 1)) (f2 Q33 (Xp (.int 10)) (Xp (.int 40)))) (Yg)))))))) (Yh [] true Y0 (kIo 0 (Y8 (Xp (.int 6)) (V2)))))) (Ym))))))
def Z5:List Sl → Option (D × List Sl):=fnF [true] 4 .n Q8p
theorem Q7l (T:Txt K mg) (k__law_draw:GK P w K mg base "_law_draw" 1 2 .n Y0) {f:Addr} {fd:FuncData} (Fu:Fun K "_law_number" "_law_number" Q2b f fd) (m:mg "_law_number" = some (.ref f)):GK P w K mg base "_law_number" 2 1 .n Z5:=by
 refine ⟨f,fd,["_law_deck_here"],Wy Fu Q3o rfl (fun cd A out s G E hG hr=>?_),rfl,m,Fu.kp,Fu.binds fun _ _ _ _ _ _ us hl=>match us,hl with | [_],_=>rfl⟩
 have S:=Q3o; have h1:=hu1 hr; have h65:=Z9 hr; have h66:=Zi hr; have h67:=Zl hr
 exact Xo (V0 rfl (tgk 1 S.nd) (Ys (k__law_draw.kn hr hG) (Vf (nmk 0) (Xy (Xk) (Yb))))) (Xo (Wp (Yx (Q3F h65).op Ye (Xs 1) (Xk)) (Xo (Yv (Ys (k__law_draw.kn hr hG) (Vf (nmk 0) (Xy (Xk) (Yb))))) (Y6)) (Y6)) (Xo (Wp (Yx (Q3F h65).op Ye (Xs 1) (Xk)) (Xo (Yv (Xt op_sub K2 (Ys (k__law_draw.kn hr hG) (Vf (nmk 0) (Xy (Xk) (Yb)))) (Xk))) (Y6)) (Y6)) (Xo (V0 rfl (tgk 2 S.nd) (Xk)) (Xo (Q1w rfl (Q27 (passes_of rfl) rfl (Q0z rfl T.m_range (Xj (V3 h1 (NV.ev (Ve (Xj (Xk) (Xj (Xk) (Xx))))) (Xt op_sub K2 (Xs 1) (Xk))) (Xx)) rfl (Q2M (Q4V))) (Yi (tgk 3 S.nd)) (by decide) (Xo (V0 rfl (tgk 2 S.nd) (Xt Xw Xv (Xt Yu Yt (Xs 2) (Xt op_pow Q4O (Xk) (Xk))) (Ys (k__law_draw.kn hr hG) (Vf (nmk 0) (Xy (Xt op_pow Q4O (Xk) (Xk)) (Yb)))))) (Zb rfl)))) (Xo (Yv (V3 h1 (NV.ev (Ve (Xj (Xs 2) (Xj (Xt op_sub K2 (Xk) (Xs 2)) (Xj (Xt Xw Xv (Xt op_pow Q4O (Xk) (Xk)) (Xs 2)) (Xj (Xt op_sub K2 (Xt op_pow Q4O (Xk) (Xk)) (Xk)) (Xj (Xt op_sub K2 (Xk) (Xs 2)) (Xj (Xt op_sub K2 (Xk) (Xt op_pow Q4O (Xk) (Xk))) (Xx))))))))) (Ys (k__law_draw.kn hr hG) (Vf (nmk 0) (Xy (Xk) (Yb)))))) (Y6))))))
abbrev Zh:Stmt:=top 50
theorem Q1X:FnScope ["_law_deck_here", "_law_way", "_law_heads", "_law_blocks", "_law_cells", "_law_cell", "_law_k"] ["_law_deck_here"] (defScope Zh):=⟨rfl,rfl,rfl,by decide +kernel,rfl,by decide +kernel,by decide +kernel⟩
def Q5O:List Sl → Option Out:=Xu (Vs 1 (Yh [] true Y0 (kIo 0 (Y8 (Xp (.int 3)) (V2))))) (Xu (Q7E (.cons (.nm 2) (.cons (.nm 3) (.cons (.nm 4) (.nil)))) (Yh [] true Q0G (kIo 0 (V2)))) (Xu (sIf (fun δ=>toB (f2 (bD eqD) (Xr 1) (Xp (.int 0)) δ)) (Xu (Vp (Q0p (Xq (Xr 2) (Xq (Xr 3) (Xq (fA (g1 QaO) (Xq (fLc (.nm 5) [5] (fIt (Xr 4)) (Q0C) (Yh [] true Z5 (kIo 0 (V2)))) (Yg))) (Yg)))))) (Ym)) (Ym)) (Xu (Q1c 4 (fA (g1 Q8O) (Xq (Xr 4) (Yg)))) (Xu (Q63 [6] (Q1H (.nm 6) (Q4a (Xq (f2 Vx (Xr 1) (Yh [] true Y0 (kIo 0 (Y8 (Xp (.int 12)) (V2))))) (Yg))) (Xu (Q2i 4 (Yh [] true Y0 (kIo 0 (Y8 (fA (g1 Zp) (Xq (fRd 4) (Yg))) (V2)))) (Yh [] true Z5 (kIo 0 (V2)))) (Q08 [6])))) (Xu (Vp (Q0p (Xq (Xr 2) (Xq (Xr 3) (Xq (fA (g1 QaO) (Xq (fRd 4) (Yg))) (Yg)))))) (Ym))))))
def Kv:List Sl → Option (D × List Sl):=fnF [true] 7 .n Q5O
theorem Q5q (T:Txt K mg) (k__law_draw:GK P w K mg base "_law_draw" 1 2 .n Y0) (k__law_number:GK P w K mg base "_law_number" 2 1 .n Z5) (k__law_sound:GK P w K mg base "_law_sound" 5 1 .n Q0G) {f:Addr} {fd:FuncData} (Fu:Fun K "_law_any_store" "_law_any_store" Zh f fd) (m:mg "_law_any_store" = some (.ref f)):GK P w K mg base "_law_any_store" 6 1 .n Kv:=by
 refine ⟨f,fd,["_law_deck_here"],Wy Fu Q1X rfl (fun cd A out s G E hG hr=>?_),rfl,m,Fu.kp,Fu.binds fun _ _ _ _ _ _ us hl=>match us,hl with | [_],_=>rfl⟩
 have S:=Q1X; have h1:=hu1 hr; have h65:=Z9 hr; have h66:=Zi hr; have h67:=Zl hr
 exact Xo (V0 rfl (tgk 1 S.nd) (Ys (k__law_draw.kn hr hG) (Vf (nmk 0) (Xy (Xk) (Yb))))) (Xo (Q7Q (by decide) (Ys (k__law_sound.kn hr hG) (Vf (nmk 0) (Yb))) (Q8Z rfl (Vl (Yi (tgk 2 S.nd)) (Vl (Yi (tgk 3 S.nd)) (Vl (Yi (tgk 4 S.nd)) (Q0h)))))) (Xo (Wp (Yx (Kj h65).op Ye (Xs 1) (Xk)) (Xo (Yv (Wu (Xj (Xs 2) (Xj (Xs 3) (Xj (K0 (bnk T.m_tuple) Q3q Q3m (Xj (NV.ev (Q1L (own:=[("_law_cell",5)]) rfl S.nd (K1 (Xs 4)) (K8 (N:=["_law_deck_here", "_law_way", "_law_heads", "_law_blocks", "_law_cells", "_law_cell", "_law_k"]) (sc:=defScope Zh) (by decide +kernel)) (fun _ _ _ _ _=>Yi (tgk 5 S.nd)) (fun _ _ _ _ _=>Kf) (fun _ _ _ _ _=>Ys (k__law_number.kn hr hG) (Vf (nmk 0) (Yb))))) (Xx))) (Xx)))))) (Y6)) (Y6)) (Xo (Q2z rfl (tgk 4 S.nd) (Qab (bnk T.m_list) QcT Qd3 (Xj (Xs 4) (Xx)))) (Xo (Q1w rfl (Q27 (passes_of rfl) rfl (Q0z rfl T.m_range (Xj (Xt Yu Yt (Xs 1) (Ys (k__law_draw.kn hr hG) (Vf (nmk 0) (Xy (Xk) (Yb))))) (Xx)) rfl (Q2M (Q4V))) (Yi (tgk 6 S.nd)) (by decide) (Xo (Q0W h1 (nmk 4) (Ys (k__law_draw.kn hr hG) (Vf (nmk 0) (Xy (V4 (bnk T.m_len) Wq Ws (Xj (Ww 4) (Xx))) (Yb)))) (Ys (k__law_number.kn hr hG) (Vf (nmk 0) (Yb))) ⟨rfl,rfl,rfl,fun _=>rfl⟩) (Zb rfl)))) (Xo (Yv (Wu (Xj (Xs 2) (Xj (Xs 3) (Xj (K0 (bnk T.m_tuple) Q3q Q3m (Xj (Ww 4) (Xx))) (Xx)))))) (Y6))))))
abbrev Q22:Stmt:=top 51
theorem Q5y:FnScope ["_law_store", "_law_heads", "_law_blocks", "_law_cells", "_law_rows", "_law_row", "_law_number_here"] ["_law_store"] (defScope Q22):=⟨rfl,rfl,rfl,by decide +kernel,rfl,by decide +kernel,by decide +kernel⟩
def Qah:List Sl → Option Out:=Xu (Q7E (.cons (.nm 1) (.cons (.nm 2) (.cons (.nm 3) (.nil)))) (Xr 0)) (Xu (Vs 4 (We (Xq (We (Xq (Xr 1) (Xq (Xr 2) (Yg)))) (Xq (f3 Wx (Xr 3) (Wa) (Vd (f2 Vx (Xp (.int 7)) (Xr 1)))) (Xq (f3 Wx (Xr 3) (Vd (f2 Vx (Xp (.int 7)) (Xr 1))) (Vd (f2 Yr (f2 Vx (Xp (.int 7)) (Xr 1)) (Xr 2)))) (Yg)))))) (Xu (Vs 4 (f2 Yr (Xr 4) (We (Xq (f3 Wx (Xr 3) (Vd (f2 Yr (f2 Vx (Xp (.int 7)) (Xr 1)) (Xr 2))) (Vd (f2 Yr (f2 Vx (Xp (.int 7)) (Xr 1)) (f2 Vx (Xp (.int 5)) (Xr 2))))) (Xq (f3 Wx (Xr 3) (Vd (f2 Yr (f2 Vx (Xp (.int 7)) (Xr 1)) (f2 Vx (Xp (.int 5)) (Xr 2)))) (Wa)) (Yg)))))) (Xu (Vp (f2 Q1z (Xp (.str "\n")) (fLc (.nm 5) [5] (fIt (Xr 4)) (Q0C) (f2 Q1z (Xp (.str " ")) (fLc (.nm 6) [6] (fIt (Xr 5)) (Q0C) (fA (g1 Q6G) (Xq (Xr 6) (Yg)))))))) (Ym))))
def Zd:List Sl → Option (D × List Sl):=fnF [false] 7 .n Qah
theorem Qa6 (T:Txt K mg)  {f:Addr} {fd:FuncData} (Fu:Fun K "_law_text" "_law_text" Q22 f fd) (m:mg "_law_text" = some (.ref f)):GK P w K mg base "_law_text" 1 1 .n Zd:=by
 refine ⟨f,fd,["_law_store"],Wy Fu Q5y rfl (fun cd A out s G E hG hr=>?_),rfl,m,Fu.kp,Fu.binds fun _ _ _ _ _ _ us hl=>match us,hl with | [_],_=>rfl⟩
 have S:=Q5y; have h1:=hu1 hr; have h65:=Z9 hr; have h66:=Zi hr; have h67:=Zl hr
 exact Xo (Q7Q (by decide) (Xs 0) (Q8Z rfl (Vl (Yi (tgk 1 S.nd)) (Vl (Yi (tgk 2 S.nd)) (Vl (Yi (tgk 3 S.nd)) (Q0h)))))) (Xo (V0 rfl (tgk 4 S.nd) (NV.ev (Ve (Xj (NV.ev (Ve (Xj (Xs 1) (Xj (Xs 2) (Xx))))) (Xj (Yl (Xs 3) (Va) (Yp (Xt Yu Yt (Xk) (Xs 1)))) (Xj (Yl (Xs 3) (Yp (Xt Yu Yt (Xk) (Xs 1))) (Yp (Xt Xw Xv (Xt Yu Yt (Xk) (Xs 1)) (Xs 2)))) (Xx))))))) (Xo (V0 rfl (tgk 4 S.nd) (Xt Xw Xv (Xs 4) (NV.ev (Ve (Xj (Yl (Xs 3) (Yp (Xt Xw Xv (Xt Yu Yt (Xk) (Xs 1)) (Xs 2))) (Yp (Xt Xw Xv (Xt Yu Yt (Xk) (Xs 1)) (Xt Yu Yt (Xk) (Xs 2))))) (Xj (Yl (Xs 3) (Yp (Xt Xw Xv (Xt Yu Yt (Xk) (Xs 1)) (Xt Yu Yt (Xk) (Xs 2)))) (Va)) (Xx))))))) (Xo (Yv (Q1Y (Ya) (NV.ev (Q1L (own:=[("_law_row",5)]) rfl S.nd (K1 (Xs 4)) (K8 (N:=["_law_store", "_law_heads", "_law_blocks", "_law_cells", "_law_rows", "_law_row", "_law_number_here"]) (sc:=defScope Q22) (by decide +kernel)) (fun _ _ _ _ _=>Yi (tgk 5 S.nd)) (fun _ _ _ _ _=>Kf) (fun _ _ _ _ _=>Q1Y (Ya) (NV.ev (Q1L (own:=[("_law_number_here",6)]) rfl S.nd (K1 (Xs 5)) (K8 (N:=["_law_store", "_law_heads", "_law_blocks", "_law_cells", "_law_rows", "_law_row", "_law_number_here"]) rfl) (fun _ _ _ _ _=>Yi (tgk 6 S.nd)) (fun _ _ _ _ _=>Kf) (fun _ _ _ _ _=>K0 (bnk T.m_str) QbR Qcm (Xj (Xs 6) (Xx)))))))))) (Y6))))
abbrev Q3l:Stmt:=top 52
theorem Q5t:FnScope ["_law_deck_here", "_law_some"] ["_law_deck_here"] (defScope Q3l):=⟨rfl,rfl,rfl,by decide +kernel,rfl,by decide +kernel,by decide +kernel⟩
def Qan:List Sl → Option Out:=Xu (Vs 1 (We (Xq (Xp (.str "-0")) (Xq (Xp (.str "00")) (Xq (Xp (.str "01")) (Xq (Xp (.str "+1")) (Xq (Xp (.str "1_0")) (Xq (Xp (.str "1.0")) (Xq (Xp (.str "")) (Xq (Xp (.str "-")) (Xq (Xp (.str "--1")) (Xq (Xp (.str "-01")) (Xq (Xp (.str "0")) (Xq (Xp (.str "1")) (Xq (Xp (.str "-1")) (Xq (Xp (.str ".")) (Xq (Xp (.str "None")) (Xq (Xp (.str "1,2")) (Xq (Xp (.str "0x1")) (Xq (Xp (.str "- 1")) (Yg))))))))))))))))))))) (Xu (Vs 1 (f2 Yr (Xr 1) (We (Xq (f2 Q2U (Xp (.str "9")) (Xp (.int 40))) (Xq (f2 Q2U (Xp (.str "9")) (Xp (.int 41))) (Xq (f2 Yr (Xp (.str "-")) (f2 Q2U (Xp (.str "9")) (Xp (.int 40)))) (Xq (f2 Yr (Xp (.str "-")) (f2 Q2U (Xp (.str "9")) (Xp (.int 41)))) (Xq (f2 Yr (Xp (.str "1")) (f2 Q2U (Xp (.str "0")) (Xp (.int 39)))) (Xq (f2 Yr (Xp (.str "1")) (f2 Q2U (Xp (.str "0")) (Xp (.int 40)))) (Xq (Xp (.str "2")) (Xq (Xp (.str "3")) (Xq (Xp (.str "8")) (Xq (Xp (.str "9")) (Yg)))))))))))))) (Xu (Vp (Yh [] true V1 (kIo 0 (Y8 (f2 Yr (Xr 1) (We (Xq (Xp (.str "12")) (Xq (Xp (.str "13")) (Xq (f2 Q2U (Xp (.str "7")) (f2 Yr (Xp (.int 41)) (Yh [] true Y0 (kIo 0 (Y8 (Xp (.int 600)) (V2)))))) (Yg)))))) (V2))))) (Ym)))
def Q14:List Sl → Option (D × List Sl):=fnF [true] 2 .n Qan
theorem Q9c (T:Txt K mg) (k__law_draw:GK P w K mg base "_law_draw" 1 2 .n Y0) (k__law_pick:GK P w K mg base "_law_pick" 2 2 .n V1) {f:Addr} {fd:FuncData} (Fu:Fun K "_law_word" "_law_word" Q3l f fd) (m:mg "_law_word" = some (.ref f)):GK P w K mg base "_law_word" 3 1 .n Q14:=by
 refine ⟨f,fd,["_law_deck_here"],Wy Fu Q5t rfl (fun cd A out s G E hG hr=>?_),rfl,m,Fu.kp,Fu.binds fun _ _ _ _ _ _ us hl=>match us,hl with | [_],_=>rfl⟩
 have S:=Q5t; have h1:=hu1 hr; have h65:=Z9 hr; have h66:=Zi hr; have h67:=Zl hr
 exact Xo (V0 rfl (tgk 1 S.nd) (NV.ev (Ve (Xj (Ya) (Xj (Ya) (Xj (Ya) (Xj (Ya) (Xj (Ya) (Xj (Ya) (Xj (Ya) (Xj (Ya) (Xj (Ya) (Xj (Ya) (Xj (Ya) (Xj (Ya) (Xj (Ya) (Xj (Ya) (Xj (Ya) (Xj (Ya) (Xj (Ya) (Xj (Ya) (Xx)))))))))))))))))))))) (Xo (V0 rfl (tgk 1 S.nd) (Xt Xw Xv (Xs 1) (NV.ev (Ve (Xj (Xt Q19 Q12 (Ya) (Xk)) (Xj (Xt Q19 Q12 (Ya) (Xk)) (Xj (Xt Xw Xv (Ya) (Xt Q19 Q12 (Ya) (Xk))) (Xj (Xt Xw Xv (Ya) (Xt Q19 Q12 (Ya) (Xk))) (Xj (Xt Xw Xv (Ya) (Xt Q19 Q12 (Ya) (Xk))) (Xj (Xt Xw Xv (Ya) (Xt Q19 Q12 (Ya) (Xk))) (Xj (Ya) (Xj (Ya) (Xj (Ya) (Xj (Ya) (Xx))))))))))))))) (Xo (Yv (Ys (k__law_pick.kn hr hG) (Vf (nmk 0) (Xy (Xt Xw Xv (Xs 1) (NV.ev (Ve (Xj (Ya) (Xj (Ya) (Xj (Xt Q19 Q12 (Ya) (Xt Xw Xv (Xk) (Ys (k__law_draw.kn hr hG) (Vf (nmk 0) (Xy (Xk) (Yb)))))) (Xx))))))) (Yb))))) (Y6)))
abbrev Q3r:Stmt:=top 53
theorem Q5M:FnScope ["_law_deck_here", "_law_some"] ["_law_deck_here"] (defScope Q3r):=⟨rfl,rfl,rfl,by decide +kernel,rfl,by decide +kernel,by decide +kernel⟩
def QaB:List Sl → Option Out:=Xu (Vs 1 (Xp (.str " !\"#$&'()*+,-./0123456789:;<=>?@ABCDEFGHIJKLMNOPQRSTUVWXYZ[\\]^_`abcdefghijklmnopqrstuvwxyz{|}~\n"))) (Xu (Vp (Yh [] true V1 (kIo 0 (Y8 (f2 Yr (Xr 1) (f2 Q2U (Xp (.str "0123456789 -\n")) (Xp (.int 6)))) (V2))))) (Ym))
def Q0f:List Sl → Option (D × List Sl):=fnF [true] 2 .n QaB
theorem Q9f (T:Txt K mg) (k__law_pick:GK P w K mg base "_law_pick" 2 2 .n V1) {f:Addr} {fd:FuncData} (Fu:Fun K "_law_sign" "_law_sign" Q3r f fd) (m:mg "_law_sign" = some (.ref f)):GK P w K mg base "_law_sign" 3 1 .n Q0f:=by
 refine ⟨f,fd,["_law_deck_here"],Wy Fu Q5M rfl (fun cd A out s G E hG hr=>?_),rfl,m,Fu.kp,Fu.binds fun _ _ _ _ _ _ us hl=>match us,hl with | [_],_=>rfl⟩
 have S:=Q5M; have h1:=hu1 hr; have h65:=Z9 hr; have h66:=Zi hr; have h67:=Zl hr
 exact Xo (V0 rfl (tgk 1 S.nd) (Ya)) (Xo (Yv (Ys (k__law_pick.kn hr hG) (Vf (nmk 0) (Xy (Xt Xw Xv (Xs 1) (Xt Q19 Q12 (Ya) (Xk))) (Yb))))) (Y6))
abbrev Q0y:Stmt:=top 54
theorem Q1O:FnScope ["_law_deck_here", "_law_line", "_law_way", "_law_words", "_law_at"] ["_law_deck_here", "_law_line", "_law_way"] (defScope Q0y):=⟨rfl,rfl,rfl,by decide +kernel,rfl,by decide +kernel,by decide +kernel⟩
def Q6b:List Sl → Option Out:=Xu (Vs 3 (f2 Q9a (Xr 1) (Xp (.str " ")))) (Xu (Vs 4 (Yh [] true Y0 (kIo 0 (Y8 (fA (g1 Zp) (Xq (Xr 3) (Yg))) (V2))))) (Xu (sIf (fun δ=>toB (f2 (bD eqD) (Xr 2) (Xp (.int 0)) δ)) (Xu (Vs 3 (f2 Yr (f3 Wx (Xr 3) (Wa) (Vd (Xr 4))) (f3 Wx (Xr 3) (Vd (f2 Yr (Xr 4) (Xp (.int 1)))) (Wa)))) (Ym)) (Ym)) (Xu (sIf (fun δ=>toB (f2 (bD eqD) (Xr 2) (Xp (.int 1)) δ)) (Xu (Vs 3 (f2 Yr (f2 Yr (f3 Wx (Xr 3) (Wa) (Vd (Xr 4))) (f3 Wx (Xr 3) (Vd (Xr 4)) (Vd (f2 Yr (Xr 4) (Xp (.int 1)))))) (f3 Wx (Xr 3) (Vd (Xr 4)) (Wa)))) (Ym)) (Ym)) (Xu (sIf (fun δ=>toB (f2 (bD eqD) (Xr 2) (Xp (.int 2)) δ)) (Xu (Vs 3 (f2 Yr (f2 Yr (f3 Wx (Xr 3) (Wa) (Vd (Xr 4))) (f1 Qdy (f3 Wx (Xr 3) (Vd (Xr 4)) (Vd (f2 Yr (Xr 4) (Xp (.int 2))))))) (f3 Wx (Xr 3) (Vd (f2 Yr (Xr 4) (Xp (.int 2)))) (Wa)))) (Ym)) (Ym)) (Xu (sIf (fun δ=>toB (f2 (bD eqD) (Xr 2) (Xp (.int 3)) δ)) (Xu (Vs 3 (f2 Yr (f2 Yr (f3 Wx (Xr 3) (Wa) (Vd (Xr 4))) (We (Xq (Yh [] true Q14 (kIo 0 (V2))) (Yg)))) (f3 Wx (Xr 3) (Vd (f2 Yr (Xr 4) (Xp (.int 1)))) (Wa)))) (Ym)) (Ym)) (Xu (Vp (f2 Q1z (Xp (.str " ")) (Xr 3))) (Ym)))))))
def Kz:List Sl → Option (D × List Sl):=fnF [true,false,false] 5 .n Q6b
theorem Q5L (T:Txt K mg) (k__law_draw:GK P w K mg base "_law_draw" 1 2 .n Y0) (k__law_word:GK P w K mg base "_law_word" 3 1 .n Q14) {f:Addr} {fd:FuncData} (Fu:Fun K "_law_bent_line" "_law_bent_line" Q0y f fd) (m:mg "_law_bent_line" = some (.ref f)):GK P w K mg base "_law_bent_line" 4 3 .n Kz:=by
 refine ⟨f,fd,["_law_deck_here", "_law_line", "_law_way"],Wy Fu Q1O rfl (fun cd A out s G E hG hr=>?_),rfl,m,Fu.kp,Fu.binds fun _ _ _ _ _ _ us hl=>match us,hl with | [_,_,_],_=>rfl⟩
 have S:=Q1O; have h1:=hu1 hr; have h65:=Z9 hr; have h66:=Zi hr; have h67:=Zl hr
 exact Xo (V0 rfl (tgk 3 S.nd) (NV.ev (Q2j (Xs 1) (Ya)))) (Xo (V0 rfl (tgk 4 S.nd) (Ys (k__law_draw.kn hr hG) (Vf (nmk 0) (Xy (V4 (bnk T.m_len) Wq Ws (Xj (Xs 3) (Xx))) (Yb))))) (Xo (Wp (Yx (Kj h65).op Ye (Xs 2) (Xk)) (Xo (V0 rfl (tgk 3 S.nd) (Xt Xw Xv (Yl (Xs 3) (Va) (Yp (Xs 4))) (Yl (Xs 3) (Yp (Xt Xw Xv (Xs 4) (Xk))) (Va)))) (Y6)) (Y6)) (Xo (Wp (Yx (Kj h65).op Ye (Xs 2) (Xk)) (Xo (V0 rfl (tgk 3 S.nd) (Xt Xw Xv (Xt Xw Xv (Yl (Xs 3) (Va) (Yp (Xs 4))) (Yl (Xs 3) (Yp (Xs 4)) (Yp (Xt Xw Xv (Xs 4) (Xk))))) (Yl (Xs 3) (Yp (Xs 4)) (Va)))) (Y6)) (Y6)) (Xo (Wp (Yx (Kj h65).op Ye (Xs 2) (Xk)) (Xo (V0 rfl (tgk 3 S.nd) (Xt Xw Xv (Xt Xw Xv (Yl (Xs 3) (Va) (Yp (Xs 4))) (Qcs (Yl (Xs 3) (Yp (Xs 4)) (Yp (Xt Xw Xv (Xs 4) (Xk)))))) (Yl (Xs 3) (Yp (Xt Xw Xv (Xs 4) (Xk))) (Va)))) (Y6)) (Y6)) (Xo (Wp (Yx (Kj h65).op Ye (Xs 2) (Xk)) (Xo (V0 rfl (tgk 3 S.nd) (Xt Xw Xv (Xt Xw Xv (Yl (Xs 3) (Va) (Yp (Xs 4))) (NV.ev (Ve (Xj (Ys (k__law_word.kn hr hG) (Vf (nmk 0) (Yb))) (Xx))))) (Yl (Xs 3) (Yp (Xt Xw Xv (Xs 4) (Xk))) (Va)))) (Y6)) (Y6)) (Xo (Yv (Q1Y (Ya) (Xs 3))) (Y6)))))))
abbrev Q3y:Stmt:=top 55
theorem Q5G:FnScope ["_law_deck_here", "_law_text_here", "_law_way", "_law_lines", "_law_at", "_law_spot", "_law_some"] ["_law_deck_here", "_law_text_here"] (defScope Q3y):=⟨rfl,rfl,rfl,by decide +kernel,rfl,by decide +kernel,by decide +kernel⟩
def Q6y:List Sl → Option Out:=Xu (Vs 2 (Yh [] true Y0 (kIo 0 (Y8 (Xp (.int 14)) (V2))))) (Xu (Vs 3 (f2 Q9a (Xr 1) (Xp (.str "\n")))) (Xu (Q7x 4 5 (Xq (Yh [] true Y0 (kIo 0 (Y8 (fA (g1 Zp) (Xq (Xr 3) (Yg))) (V2)))) (Xq (Yh [] true Y0 (kIo 0 (Y8 (f2 Yr (fA (g1 Zp) (Xq (Xr 1) (Yg))) (Xp (.int 1))) (V2)))) (Yg)))) (Xu (sIf (fun δ=>toB (f2 (bD ltD) (Xr 2) (Xp (.int 3)) δ)) (Xu (Vp (f2 Yr (f2 Yr (f3 Wx (Xr 1) (Wa) (Vd (Xr 5))) (f2 W1 (We (Xq (Yh [] true Q0f (kIo 0 (V2))) (Xq (Yh [] true Q0f (kIo 0 (V2))) (Xq (Xp (.str "")) (Yg))))) (Xr 2))) (f3 Wx (Xr 1) (Vd (f2 Yr (Xr 5) (fA (g1 QbK) (Xq (f2 (bD gtD) (Xr 2) (Xp (.int 0))) (Yg))))) (Wa)))) (Ym)) (Ym)) (Xu (sIf (fun δ=>toB (f2 (bD ltD) (Xr 2) (Xp (.int 9)) δ)) (Xu (Vp (f2 Q1z (Xp (.str "\n")) (f2 Yr (f2 Yr (f3 Wx (Xr 3) (Wa) (Vd (Xr 4))) (We (Xq (Yh [] true Kz (kIo 0 (Y8 (f2 W1 (Xr 3) (Xr 4)) (Y8 (f2 W1 (We (Xq (Xp (.int 0)) (Xq (Xp (.int 1)) (Xq (Xp (.int 2)) (Xq (Xp (.int 3)) (Xq (Xp (.int 3)) (Xq (Xp (.int 3)) (Yg)))))))) (f2 Q1K (Xr 2) (Xp (.int 3)))) (V2))))) (Yg)))) (f3 Wx (Xr 3) (Vd (f2 Yr (Xr 4) (Xp (.int 1)))) (Wa))))) (Ym)) (Ym)) (Xu (sIf (fun δ=>toB (f2 (bD eqD) (Xr 2) (Xp (.int 9)) δ)) (Xu (Vp (f2 Q1z (Xp (.str "\n")) (f2 Yr (We (Xq (f2 Yr (f2 Yr (fA (g1 Q6G) (Xq (f2 Yr (Xp (.int 2)) (Yh [] true Y0 (kIo 0 (Y8 (Xp (.int 8)) (V2))))) (Yg))) (Xp (.str " "))) (fA (g1 Q6G) (Xq (f2 Yr (Xp (.int 2)) (Yh [] true Y0 (kIo 0 (Y8 (Xp (.int 12)) (V2))))) (Yg)))) (Yg))) (f3 Wx (Xr 3) (Vd (Xp (.int 1))) (Wa))))) (Ym)) (Ym)) (Xu (sIf (fun δ=>toB (f2 (bD eqD) (Xr 2) (Xp (.int 10)) δ)) (Xu (Vp (f2 Q1z (Xp (.str "\n")) (f2 Yr (f3 Wx (Xr 3) (Wa) (Vd (Xr 4))) (f3 Wx (Xr 3) (Vd (f2 Yr (Xr 4) (Xp (.int 1)))) (Wa))))) (Ym)) (Ym)) (Xu (sIf (fun δ=>toB (f2 (bD eqD) (Xr 2) (Xp (.int 11)) δ)) (Xu (Vp (f2 Q1z (Xp (.str "\n")) (f2 Yr (f2 Yr (f3 Wx (Xr 3) (Wa) (Vd (Xr 4))) (f3 Wx (Xr 3) (Vd (Xr 4)) (Vd (f2 Yr (Xr 4) (Xp (.int 1)))))) (f3 Wx (Xr 3) (Vd (Xr 4)) (Wa))))) (Ym)) (Ym)) (Xu (sIf (fun δ=>toB (f2 (bD eqD) (Xr 2) (Xp (.int 12)) δ)) (Xu (Vp (f2 Q1z (Xp (.str "\n")) (f2 Yr (f2 Yr (f3 Wx (Xr 3) (Wa) (Vd (Xr 4))) (f1 Qdy (f3 Wx (Xr 3) (Vd (Xr 4)) (Vd (f2 Yr (Xr 4) (Xp (.int 2))))))) (f3 Wx (Xr 3) (Vd (f2 Yr (Xr 4) (Xp (.int 2)))) (Wa))))) (Ym)) (Ym)) (Xu (Vs 6 (We (Xq (f2 Yr (Xp (.str " ")) (Xr 1)) (Xq (f2 Yr (Xr 1) (Xp (.str " "))) (Xq (f2 Yr (Xp (.str "\n")) (Xr 1)) (Xq (f2 Yr (Xr 1) (Xp (.str "\n"))) (Xq (f1 (Qao "\n" " ") (Xr 1)) (Yg)))))))) (Xu (Vp (Yh [] true V1 (kIo 0 (Y8 (f2 Yr (Xr 6) (We (Xq (f1 (Qao " " "  ") (Xr 1)) (Yg)))) (V2))))) (Ym)))))))))))
def Q0o:List Sl → Option (D × List Sl):=fnF [true,false] 7 .n Q6y
theorem Q9p (T:Txt K mg) (k__law_bent_line:GK P w K mg base "_law_bent_line" 4 3 .n Kz) (k__law_draw:GK P w K mg base "_law_draw" 1 2 .n Y0) (k__law_pick:GK P w K mg base "_law_pick" 2 2 .n V1) (k__law_sign:GK P w K mg base "_law_sign" 3 1 .n Q0f) {f:Addr} {fd:FuncData} (Fu:Fun K "_law_bent" "_law_bent" Q3y f fd) (m:mg "_law_bent" = some (.ref f)):GK P w K mg base "_law_bent" 5 2 .n Q0o:=by
 refine ⟨f,fd,["_law_deck_here", "_law_text_here"],Wy (sg:=[true,false]) (fr:=.n) (g:=Q6y) (N:=["_law_deck_here", "_law_text_here", "_law_way", "_law_lines", "_law_at", "_law_spot", "_law_some"]) Fu Q5G rfl (fun cd A out s G E hG hr=>?_),rfl,m,Fu.kp,Fu.binds fun _ _ _ _ _ _ us hl=>match us,hl with | [_,_],_=>rfl⟩
 have S:=Q5G; have h1:=hu1 hr; have h65:=Z9 hr; have h66:=Zi hr; have h67:=Zl hr
 exact Xo (V0 rfl (tgk 2 S.nd) (Ys (k__law_draw.kn hr hG) (Vf (nmk 0) (Xy (Xk) (Yb))))) (Xo (V0 rfl (tgk 3 S.nd) (NV.ev (Q2j (Xs 1) (Ya)))) (Xo (Q9u rfl rfl rfl (tgk 4 S.nd) (tgk 5 S.nd) (by decide) rfl rfl (Xj (Ys (k__law_draw.kn hr hG) (Vf (nmk 0) (Xy (V4 (bnk T.m_len) Wq Ws (Xj (Xs 3) (Xx))) (Yb)))) (Xj (Ys (k__law_draw.kn hr hG) (Vf (nmk 0) (Xy (Xt Xw Xv (V4 (bnk T.m_len) Wq Ws (Xj (Xs 1) (Xx))) (Xk)) (Yb)))) (Xx)))) (Xo (Wp (Yx (Q3F h65).op Ye (Xs 2) (Xk)) (Xo (Yv (Xt Xw Xv (Xt Xw Xv (Yl (Xs 1) (Va) (Yp (Xs 5))) (V3 h1 (NV.ev (Ve (Xj (Ys (k__law_sign.kn hr hG) (Vf (nmk 0) (Yb))) (Xj (Ys (k__law_sign.kn hr hG) (Vf (nmk 0) (Yb))) (Xj (Ya) (Xx)))))) (Xs 2))) (Yl (Xs 1) (Yp (Xt Xw Xv (Xs 5) (K0 (bnk T.m_int) Qa0 Q92 (Xj (Q2A Qd1.op Ye (Xs 2) (Xk)) (Xx))))) (Va)))) (Y6)) (Y6)) (Xo (Wp (Yx (Q3F h65).op Ye (Xs 2) (Xk)) (Xo (Yv (Q1Y (Ya) (Xt Xw Xv (Xt Xw Xv (Yl (Xs 3) (Va) (Yp (Xs 4))) (NV.ev (Ve (Xj (Ys (k__law_bent_line.kn hr hG) (Vf (nmk 0) (Xy (V3 h1 (Xs 3) (Xs 4)) (Xy (V3 h1 (NV.ev (Ve (Xj (Xk) (Xj (Xk) (Xj (Xk) (Xj (Xk) (Xj (Xk) (Xj (Xk) (Xx))))))))) (Xt op_sub K2 (Xs 2) (Xk))) (Yb))))) (Xx))))) (Yl (Xs 3) (Yp (Xt Xw Xv (Xs 4) (Xk))) (Va))))) (Y6)) (Y6)) (Xo (Wp (Yx (Kj h65).op Ye (Xs 2) (Xk)) (Xo (Yv (Q1Y (Ya) (Xt Xw Xv (NV.ev (Ve (Xj (Xt Xw Xv (Xt Xw Xv (K0 (bnk T.m_str) QbR Qcm (Xj (Xt Xw Xv (Xk) (Ys (k__law_draw.kn hr hG) (Vf (nmk 0) (Xy (Xk) (Yb))))) (Xx))) (Ya)) (K0 (bnk T.m_str) QbR Qcm (Xj (Xt Xw Xv (Xk) (Ys (k__law_draw.kn hr hG) (Vf (nmk 0) (Xy (Xk) (Yb))))) (Xx)))) (Xx)))) (Yl (Xs 3) (Yp (Xk)) (Va))))) (Y6)) (Y6)) (Xo (Wp (Yx (Kj h65).op Ye (Xs 2) (Xk)) (Xo (Yv (Q1Y (Ya) (Xt Xw Xv (Yl (Xs 3) (Va) (Yp (Xs 4))) (Yl (Xs 3) (Yp (Xt Xw Xv (Xs 4) (Xk))) (Va))))) (Y6)) (Y6)) (Xo (Wp (Yx (Kj h65).op Ye (Xs 2) (Xk)) (Xo (Yv (Q1Y (Ya) (Xt Xw Xv (Xt Xw Xv (Yl (Xs 3) (Va) (Yp (Xs 4))) (Yl (Xs 3) (Yp (Xs 4)) (Yp (Xt Xw Xv (Xs 4) (Xk))))) (Yl (Xs 3) (Yp (Xs 4)) (Va))))) (Y6)) (Y6)) (Xo (Wp (Yx (Kj h65).op Ye (Xs 2) (Xk)) (Xo (Yv (Q1Y (Ya) (Xt Xw Xv (Xt Xw Xv (Yl (Xs 3) (Va) (Yp (Xs 4))) (Qcs (Yl (Xs 3) (Yp (Xs 4)) (Yp (Xt Xw Xv (Xs 4) (Xk)))))) (Yl (Xs 3) (Yp (Xt Xw Xv (Xs 4) (Xk))) (Va))))) (Y6)) (Y6)) (QjK rfl (tgk 6 S.nd) (Qhd (QiA Xw Xv (Xs 1)) (Q37 (Q9D (Xt Xw Xv (Xs 1) (Ya))) (Q37 (Q9D (Xt Xw Xv (Ya) (Xs 1))) (Q37 (Q9D (Xt Xw Xv (Xs 1) (Ya))) (Q37 (Qb8 (Xs 1)) Qct))))) (QhB (Qhe (QiQ (k__law_pick.kn hr hG) (QjA (nmk 0) (Qg6 (Qiq Xw Xv (Q9D (Xs 6)) (Qh9 (Q37 (Qb8 (Xs 1)) Qct))) QgB))))))))))))))
abbrev Q0T:Stmt:=top 56
theorem Q2l:FnScope ["_law_deck_here", "_law_text_here", "_law_far", "_law_at"] ["_law_deck_here"] (defScope Q0T):=⟨rfl,rfl,rfl,by decide +kernel,rfl,by decide +kernel,by decide +kernel⟩
def Q2Z:List Sl → Option Out:=Xu (Q7x 1 2 (Xq (Yh [] true Zd (Y8 (Q0p (Xq (Xp (.int 2)) (Xq (Xp (.int 3)) (Xq (f2 Vx (Q0p (Xq (Xp (.int 0)) (Yg))) (Xp (.int 111))) (Yg))))) (V2))) (Xq (f2 Q2U (Xp (.str "1")) (f2 Yr (Xp (.int 4290)) (Yh [] true Y0 (kIo 0 (Y8 (Xp (.int 800)) (V2)))))) (Yg)))) (Xu (Vs 3 (f2 Yr (Xp (.int 4)) (f2 Vx (Xp (.int 2)) (Yh [] true Y0 (kIo 0 (Y8 (Xp (.int 111)) (V2))))))) (Xu (Vp (f2 Yr (f2 Yr (f2 Yr (f3 Wx (Xr 1) (Wa) (Vd (Xr 3))) (Yh [] true V1 (kIo 0 (Y8 (We (Xq (Xp (.str "")) (Xq (Xp (.str "-")) (Yg)))) (V2))))) (Xr 2)) (f3 Wx (Xr 1) (Vd (f2 Yr (Xr 3) (Xp (.int 1)))) (Wa)))) (Ym)))
def Z8:List Sl → Option (D × List Sl):=fnF [true] 4 .n Q2Z
theorem Q64 (T:Txt K mg) (k__law_draw:GK P w K mg base "_law_draw" 1 2 .n Y0) (k__law_pick:GK P w K mg base "_law_pick" 2 2 .n V1) (k__law_text:GK P w K mg base "_law_text" 1 1 .n Zd) {f:Addr} {fd:FuncData} (Fu:Fun K "_law_far_text" "_law_far_text" Q0T f fd) (m:mg "_law_far_text" = some (.ref f)):GK P w K mg base "_law_far_text" 3 1 .n Z8:=by
 refine ⟨f,fd,["_law_deck_here"],Wy (sg:=[true]) (fr:=.n) (g:=Q2Z) (N:=["_law_deck_here", "_law_text_here", "_law_far", "_law_at"]) Fu Q2l rfl (fun cd A out s G E hG hr=>?_),rfl,m,Fu.kp,Fu.binds fun _ _ _ _ _ _ us hl=>match us,hl with | [_],_=>rfl⟩
 have S:=Q2l; have h1:=hu1 hr; have h65:=Z9 hr; have h66:=Zi hr; have h67:=Zl hr
 exact Xo (Q9u rfl rfl rfl (tgk 1 S.nd) (tgk 2 S.nd) (by decide) rfl rfl (Xj (Ys (k__law_text.kn hr hG) (Xy (Wu (Xj (Xk) (Xj (Xk) (Xj (Xt Yu Yt (Wu (Xj (Xk) (Xx))) (Xk)) (Xx))))) (Yb))) (Xj (Xt Q19 Q12 (Ya) (Xt Xw Xv (Xk) (Ys (k__law_draw.kn hr hG) (Vf (nmk 0) (Xy (Xk) (Yb)))))) (Xx)))) (Xo (V0 rfl (tgk 3 S.nd) (Xt Xw Xv (Xk) (Xt Yu Yt (Xk) (Ys (k__law_draw.kn hr hG) (Vf (nmk 0) (Xy (Xk) (Yb))))))) (Xo (Yv (Xt Xw Xv (Xt Xw Xv (Xt Xw Xv (Yl (Xs 1) (Va) (Yp (Xs 3))) (Ys (k__law_pick.kn hr hG) (Vf (nmk 0) (Xy (NV.ev (Ve (Xj (Ya) (Xj (Ya) (Xx))))) (Yb))))) (Xs 2)) (Yl (Xs 1) (Yp (Xt Xw Xv (Xs 3) (Xk))) (Va)))) (Y6)))
abbrev Z7:Stmt:=top 57
theorem Q1Z:FnScope ["_law_word_here", "_law_figures", "_law_sign_here"] ["_law_word_here"] (defScope Z7):=⟨rfl,rfl,rfl,by decide +kernel,rfl,by decide +kernel,by decide +kernel⟩
def Q5U:List Sl → Option Out:=Xu (Vs 1 (Q2n (fun δ=>toB (f2 (bD eqD) (f3 Wx (Xr 0) (Wa) (Vd (Xp (.int 1)))) (Xp (.str "-")) δ)) (f3 Wx (Xr 0) (Vd (Xp (.int 1))) (Wa)) (Xr 0))) (Xu (sIf (gOr (fun δ=>toB (f2 (bD eqD) (Xr 1) (Xp (.str "")) δ)) (gOr (fun δ=>toB (f2 (bD gtD) (fA (g1 Zp) (Xq (Xr 1) (Yg))) (Xp (.int 40)) δ)) (fun δ=>toB (f2 (bD neD) (fLc (.nm 2) [2] (fIt (Xr 1)) (fun δ=>toB (f2 (bD Q4T) (Xr 2) (Xp (.str "0123456789")) δ)) (Xr 2)) (We (Yg)) δ)))) (Xu (Vp (Xp .none)) (Ym)) (Ym)) (Xu (Vp (Q2n (Q7Z (fun δ=>toB (f2 (bD eqD) (f2 W1 (Xr 1) (Xp (.int 0))) (Xp (.str "0")) δ)) (fun δ=>toB (f2 (bD neD) (Xr 0) (Xp (.str "0")) δ))) (Xp .none) (fA (g1 QaI) (Xq (Xr 0) (Yg))))) (Ym)))
def Ky:List Sl → Option (D × List Sl):=fnF [false] 3 .n Q5U
theorem Q55 (T:Txt K mg)  {f:Addr} {fd:FuncData} (Fu:Fun K "_law_word_read" "_law_word_read" Z7 f fd) (m:mg "_law_word_read" = some (.ref f)):GK P w K mg base "_law_word_read" 1 1 .n Ky:=by
 refine ⟨f,fd,["_law_word_here"],Wy Fu Q1Z rfl (fun cd A out s G E hG hr=>?_),rfl,m,Fu.kp,Fu.binds fun _ _ _ _ _ _ us hl=>match us,hl with | [_],_=>rfl⟩
 have S:=Q1Z; have h1:=hu1 hr; have h65:=Z9 hr; have h66:=Zi hr; have h67:=Zl hr
 exact Xo (V0 rfl (tgk 1 S.nd) (Q62 (Yx (Kj h65).op Ye (Yl (Xs 0) (Va) (Yp (Xk))) (Ya)) (Yl (Xs 0) (Yp (Xk)) (Va)) (Xs 0))) (Xo (Wp (WV.tv (Q2s (Yx (Kj h65).op Ye (Xs 1) (Ya)) (Q2s (Yx Qd1.op Ye (V4 (bnk T.m_len) Wq Ws (Xj (Xs 1) (Xx))) (Xk)) (Q2L (Yx (Q0O h65).op Ye (NV.ev (Q1L (own:=[("_law_sign_here",2)]) rfl S.nd (K1 (Xs 1)) (K8 (N:=["_law_word_here", "_law_figures", "_law_sign_here"]) (sc:=defScope Z7) (by decide +kernel)) (fun _ _ _ _ _=>Yi (tgk 2 S.nd)) (fun _ _ _ _ _=>Q5m (Yx (QeB h65).op Ye (Xs 2) (Ya))) (fun _ _ _ _ _=>Xs 2))) (NV.ev (Ve (Xx)))))))) (Xo (Yv (Q2R)) (Y6)) (Y6)) (Xo (Yv (Q62 (WV.tv (Q76 (Yx (Kj h65).op Ye (V3 h1 (Xs 1) (Xk)) (Ya)) (Q6M (Yx (Q0O h65).op Ye (Xs 0) (Ya))))) (Q2R) (K0 (bnk T.m_int) QcD Qcp (Xj (Xs 0) (Xx))))) (Y6)))
abbrev Q09:Stmt:=top 58
theorem Q5d:FnScope ["_law_text_here", "_law_rows", "_law_line", "_law_word_here", "_law_row", "_law_heads", "_law_blocks"] ["_law_text_here"] (defScope Q09):=⟨rfl,rfl,rfl,by decide +kernel,rfl,by decide +kernel,by decide +kernel⟩
def Qam:List Sl → Option Out:=Xu (Q1c 1 (fLc (.nm 2) [2] (fIt (f2 Q9a (Xr 0) (Xp (.str "\n")))) (Q0C) (fLc (.nm 3) [3] (fIt (f2 Q9a (Xr 2) (Xp (.str " ")))) (Q0C) (Yh [] true Ky (Y8 (Xr 3) (V2)))))) (Xu (sIf (gOr (fun δ=>toB (f2 (bD neD) (fA (g1 Zp) (Xq (fRd 1) (Yg))) (Xp (.int 5)) δ)) (gOr (fun δ=>toB (f2 (bD neD) (fA (g1 Zp) (Xq (f2 W1 (fRd 1) (Xp (.int 0))) (Yg))) (Xp (.int 2)) δ)) (fun δ=>toB (f2 (bD neD) (fLc (.nm 4) [4] (fIt (fRd 1)) (fun δ=>toB (f2 (bD inD) (Xp .none) (Xr 4) δ)) (Xr 4)) (We (Yg)) δ)))) (Xu (Vp (Xp .none)) (Ym)) (Ym)) (Xu (Q5v (.cons (.nm 5) (.cons (.nm 6) (.nil))) (f2 W1 (fRd 1) (Xp (.int 0)))) (Xu (sIf (gOr (Q1G (fun δ=>toB (Q0u (bD ltD) (bD ltD) (Xp (.int 1)) (Xr 5) (Xp (.int 9)) δ))) (Q1G (fun δ=>toB (Q0u (bD ltD) (bD ltD) (Xp (.int 2)) (Xr 6) (Xp (.int 13)) δ)))) (Xu (Vp (Xp .none)) (Ym)) (Ym)) (Xu (sIf (fun δ=>toB (f2 (bD neD) (fLc (.nm 4) [4] (fIt (f3 Wx (fRd 1) (Vd (Xp (.int 1))) (Wa))) (Q0C) (fA (g1 Zp) (Xq (Xr 4) (Yg)))) (We (Xq (f2 Vx (Xp (.int 7)) (Xr 5)) (Xq (Xr 6) (Xq (f2 Vx (Xp (.int 4)) (Xr 6)) (Xq (Xp (.int 82)) (Yg)))))) δ)) (Xu (Vp (Xp .none)) (Ym)) (Ym)) (Xu (Vp (Q0p (Xq (Xr 5) (Xq (Xr 6) (Xq (fA (g1 QaO) (Xq (f2 Yr (f2 Yr (f2 Yr (f2 W1 (fRd 1) (Xp (.int 1))) (f2 W1 (fRd 1) (Xp (.int 2)))) (f2 W1 (fRd 1) (Xp (.int 3)))) (f2 W1 (fRd 1) (Xp (.int 4)))) (Yg))) (Yg)))))) (Ym))))))
def Q1j:List Sl → Option (D × List Sl):=fnF [false] 7 .n Qam
theorem Q9b (T:Txt K mg) (k__law_word_read:GK P w K mg base "_law_word_read" 1 1 .n Ky) {f:Addr} {fd:FuncData} (Fu:Fun K "_law_read" "_law_read" Q09 f fd) (m:mg "_law_read" = some (.ref f)):GK P w K mg base "_law_read" 2 1 .n Q1j:=by
 refine ⟨f,fd,["_law_text_here"],Wy Fu Q5d rfl (fun cd A out s G E hG hr=>?_),rfl,m,Fu.kp,Fu.binds fun _ _ _ _ _ _ us hl=>match us,hl with | [_],_=>rfl⟩
 have S:=Q5d; have h1:=hu1 hr; have h65:=Z9 hr; have h66:=Zi hr; have h67:=Zl hr
 exact Xo (QcS (own:=[("_law_line",2)]) rfl S.nd rfl rfl rfl (K1 (NV.ev (Q2j (Xs 0) (Ya)))) (K8 (N:=["_law_text_here", "_law_rows", "_law_line", "_law_word_here", "_law_row", "_law_heads", "_law_blocks"]) (sc:=defScope Q09) (by decide +kernel)) (fun _ _ _ _ _=>Yi (tgk 2 S.nd)) (fun _ _ _ _ _=>Kf) (fun _ _ _ _ _=>NV.ev (Q1L (own:=[("_law_word_here",3)]) rfl S.nd (K1 (NV.ev (Q2j (Xs 2) (Ya)))) (K8 (N:=["_law_text_here", "_law_rows", "_law_line", "_law_word_here", "_law_row", "_law_heads", "_law_blocks"]) rfl) (fun _ _ _ _ _=>Yi (tgk 3 S.nd)) (fun _ _ _ _ _=>Kf) (fun _ _ _ _ _=>Ys (k__law_word_read.kn hr hG) (Xy (Xs 3) (Yb))))) (by intro _; rfl) (by decide) (by decide) rfl) (Xo (Wp (WV.tv (Q2s (Yx (Q0O h65).op Ye (V4 (bnk T.m_len) Wq Ws (Xj (Ww 1) (Xx))) (Xk)) (Q2s (Yx (Q0O h65).op Ye (V4 (bnk T.m_len) Wq Ws (Xj (V3 h1 (Ww 1) (Xk)) (Xx))) (Xk)) (Q2L (Yx (Q0O h65).op Ye (NV.ev (Q1L (own:=[("_law_row",4)]) rfl S.nd (K1 (Ww 1)) (K8 (N:=["_law_text_here", "_law_rows", "_law_line", "_law_word_here", "_law_row", "_law_heads", "_law_blocks"]) (sc:=defScope Q09) (by decide +kernel)) (fun _ _ _ _ _=>Yi (tgk 4 S.nd)) (fun _ _ _ _ _=>Q5m (Yx (QhX h65).op Ye (Q2R) (Xs 4))) (fun _ _ _ _ _=>Xs 4))) (NV.ev (Ve (Xx)))))))) (Xo (Yv (Q2R)) (Y6)) (Y6)) (Xo (QaS rfl (by decide) (V3 h1 (Ww 1) (Xk)) (Vl (Yi (tgk 5 S.nd)) (Vl (Yi (tgk 6 S.nd)) (Q0h)))) (Xo (Wp (WV.tv (Q2s (Zn (Q7B (Q3F h65).op Ye (Q3F h65).op Ye (Xk) (Xs 5) (Xk))) (Q2L (Zn (Q7B (Q3F h65).op Ye (Q3F h65).op Ye (Xk) (Xs 6) (Xk)))))) (Xo (Yv (Q2R)) (Y6)) (Y6)) (Xo (Wp (Yx (Q0O h65).op Ye (NV.ev (Q1L (own:=[("_law_row",4)]) rfl S.nd (K1 (Yl (Ww 1) (Yp (Xk)) (Va))) (K8 (N:=["_law_text_here", "_law_rows", "_law_line", "_law_word_here", "_law_row", "_law_heads", "_law_blocks"]) (sc:=defScope Q09) (by decide +kernel)) (fun _ _ _ _ _=>Yi (tgk 4 S.nd)) (fun _ _ _ _ _=>Kf) (fun _ _ _ _ _=>V4 (bnk T.m_len) Wq Ws (Xj (Xs 4) (Xx))))) (NV.ev (Ve (Xj (Xt Yu Yt (Xk) (Xs 5)) (Xj (Xs 6) (Xj (Xt Yu Yt (Xk) (Xs 6)) (Xj (Xk) (Xx)))))))) (Xo (Yv (Q2R)) (Y6)) (Y6)) (Xo (Yv (Wu (Xj (Xs 5) (Xj (Xs 6) (Xj (K0 (bnk T.m_tuple) Q3q Q3m (Xj (Xt Xw Xv (Xt Xw Xv (Xt Xw Xv (V3 h1 (Ww 1) (Xk)) (V3 h1 (Ww 1) (Xk))) (V3 h1 (Ww 1) (Xk))) (V3 h1 (Ww 1) (Xk))) (Xx))) (Xx)))))) (Y6))))))
abbrev Q0k:Stmt:=top 59
theorem Q1D:FnScope ["_law_thing", "_law_good", "e", "_law_odd"] ["_law_thing"] (defScope Q0k):=⟨rfl,rfl,rfl,by decide +kernel,rfl,by decide +kernel,by decide +kernel⟩
noncomputable def Q1Q:List Sl → Option Ox:=Yk (xS (Vs 1 (Xp (.bool false)))) (Yk (Q3J exN "NoText" 2 (Yk (Q7y (Q0P [] Wi (Q1q (xOk (Xr 0)) (xAs V2)))) (xS (Q08 [3]))) (fun c a=>Yk (xS (Vs 3 (fXv 2 a ((["Full", "NoBack", "NoName", "NoPath", "NoPlace", "NoRow", "NotEmpty", "NoWorths", "Ring", "Taken", "Unsound"]:List Str).any (Q29 c))))) (Yk (xS (Vs 1 (Q7D (fXv 2 a (Q29 c "StoreError")) (Q7D (fXv 2 a true) (Qef (Xr 3)))))) (xS (Q08 [3]))))) (Yk (xR (Vp (Xr 1))) (xS Ym)))
noncomputable def W7:List Sl → Option (Rs × List Sl):=fnX [false] 1 4 [] (.f .n) Q1Q
theorem Q4D (T:Txt K mg) (k_read_store:GX P w K mg base "read_store" 5 1 0 (fun _=>false) (.f .n) Wi) {f:Addr} {fd:FuncData} (Fu:Fun K "_law_is_refused" "_law_is_refused" Q0k f fd) (m:mg "_law_is_refused" = some (.ref f)):GX P w K mg base "_law_is_refused" 6 1 0 (fun _=>false) (.f .n) W7:=by
 refine ⟨f,fd,["_law_thing"],Q9j (N:=["_law_thing", "_law_good", "e", "_law_odd"]) (fr:=.f .n) (g:=Q1Q) (n:=1) (m:=0) (vl:=[]) (mv:=(fun _=>false)) (sg:=[false]) Fu Q1D rfl (Qa5 rfl) (.inl (.inl rfl)) (Qdq (by decide +kernel)) (fun cd A out s G E hG hr=>?_),rfl,m,Fu.kp,Fu.binds fun _ _ _ _ _ _ us hl=>match us,hl with | [_],_=>rfl⟩
 have S:=Q1D; have h1:=hu1 hr; have h65:=Z9 hr; have h66:=Zi hr; have h67:=Zl hr
 exact V9 (Q9o (V0 rfl (tgk 1 S.nd) (Q4g))) (V9 (Qgc rfl rfl T.ex rfl rfl rfl rfl (tgk 2 S.nd) rfl (fun h=>h.elim .inl fun h=>.inr (.inl h)) (takes_of rfl rfl rfl rfl) (fun W pn xe tk po=>V9 (Qjg (QfG (Q3d (fun σ=>passAt tk σ) (k_read_store.kn hr hG) (Q0Q (Q3C (Xs 0)) (Q1T))))) (Qcy rfl)) (fun c a C oe pn hc hC hz hf=>V9 (Q9o (V0 rfl (tgk 3 S.nd) (QhE T.ex hc hC hz hf (bnk T.m_isinstance) (nmk 2) (.cons (d := "Full") rfl rfl rfl rfl (.cons (d := "NoBack") rfl rfl rfl rfl (.cons (d := "NoName") rfl rfl rfl rfl (.cons (d := "NoPath") rfl rfl rfl rfl (.cons (d := "NoPlace") rfl rfl rfl rfl (.cons (d := "NoRow") rfl rfl rfl rfl (.cons (d := "NotEmpty") rfl rfl rfl rfl (.cons (d := "NoWorths") rfl rfl rfl rfl (.cons (d := "Ring") rfl rfl rfl rfl (.cons (d := "Taken") rfl rfl rfl rfl (.cons (d := "Unsound") rfl rfl rfl rfl (.nil)))))))))))) rfl rfl rfl rfl))) (V9 (Q9o (V0 rfl (tgk 1 S.nd) (Q7a (Qjc (d := "StoreError") T.ex hc hC hz hf (bnk T.m_isinstance) (nmk 2) rfl rfl rfl rfl rfl rfl) (Q7a (QhI T.ex hc hC hz hf (bnk T.m_isinstance) (nmk 2) (bnk T.m_ValueError) rfl rfl rfl) (Q6N (QfJ (Xs 3))))))) (Qcy rfl)))) (V9 (Qec (Yv (Xs 1))) (K9)))
abbrev Q2w:Stmt:=top 60
theorem Q4h:FnScope ["_law_thing", "_law_due"] ["_law_thing"] (defScope Q2w):=⟨rfl,rfl,rfl,by decide +kernel,rfl,by decide +kernel,by decide +kernel⟩
noncomputable def Q5i:List Sl → Option Ox:=Yk (Q48 (Q7Z (fun δ=>toB ((f1 (Qbs "str") (Xr 0)) δ)) (fun δ=>toB (f2 (bD gtD) (fA (g1 Zp) (Xq (Xr 0) (Yg))) (Xp (.int 12000)) δ))) (Yk (xR (Vp (Xp (.bool true)))) (xS Ym)) (xS Ym)) (Yk (xS (Vs 1 (Q2n (fun δ=>toB ((f1 (Qbs "str") (Xr 0)) δ)) (Yh [] true Q1j (Y8 (Xr 0) (V2))) (Xp .none)))) (Yk (Q48 (fun δ=>toB (f2 (bD isD) (Xr 1) (Xp .none) δ)) (Yk (xR (Vp (okR (Q0P [] W7 (Q1q (xOk (Xr 0)) (xAs V2)))))) (xS Ym)) (xS Ym)) (Yk (xR (Vp (f2 (bD eqD) (fA (g1 Q6l) (Xq (okR (Q0P [] Wi (Q1q (xOk (Xr 0)) (xAs V2)))) (Yg))) (fA (g1 Q6l) (Xq (Xr 1) (Yg)))))) (xS Ym))))
noncomputable def Zv:List Sl → Option (Rs × List Sl):=fnX [false] 1 2 [] (.f .n) Q5i
theorem Q89 (T:Txt K mg) (k__law_is_refused:GX P w K mg base "_law_is_refused" 6 1 0 (fun _=>false) (.f .n) W7) (k__law_read:GK P w K mg base "_law_read" 2 1 .n Q1j) (k_read_store:GX P w K mg base "read_store" 5 1 0 (fun _=>false) (.f .n) Wi) {f:Addr} {fd:FuncData} (Fu:Fun K "_law_is_so" "_law_is_so" Q2w f fd) (m:mg "_law_is_so" = some (.ref f)):GX P w K mg base "_law_is_so" 7 1 0 (fun _=>false) (.f .n) Zv:=by
 refine ⟨f,fd,["_law_thing"],Q9j (N:=["_law_thing", "_law_due"]) (fr:=.f .n) (g:=Q5i) (n:=1) (m:=0) (vl:=[]) (mv:=(fun _=>false)) (sg:=[false]) Fu Q4h rfl (Qa5 rfl) (.inl (.inl rfl)) (Qdq (by decide +kernel)) (fun cd A out s G E hG hr=>?_),rfl,m,Fu.kp,Fu.binds fun _ _ _ _ _ _ us hl=>match us,hl with | [_],_=>rfl⟩
 have S:=Q4h; have h1:=hu1 hr; have h65:=Z9 hr; have h66:=Zi hr; have h67:=Zl hr
 exact V9 (Q6j (WV.tv (Q76 (Zk (Q4X (T := "str") rfl (bnk T.m_isinstance) (bnk T.m_str) (Xs 0))) (Q6M (Yx Qd1.op Ye (V4 (bnk T.m_len) Wq Ws (Xj (Xs 0) (Xx))) (Xk))))) (V9 (Qec (Yv (Q4g))) (K9)) (K9)) (V9 (Q9o (V0 rfl (tgk 1 S.nd) (Q62 (Zk (Q4X (T := "str") rfl (bnk T.m_isinstance) (bnk T.m_str) (Xs 0))) (Ys (k__law_read.kn hr hG) (Xy (Xs 0) (Yb))) (Q2R)))) (V9 (Q6j (Yx Qkt.op Ye (Xs 1) (Q2R)) (V9 (Qec (Yv (Q8C (Q3d Q3T (k__law_is_refused.kn hr hG) (Q0Q (Q3C (Xs 0)) (Q1T)))))) (K9)) (K9)) (V9 (Qec (Yv (Q2A (Kj h65).op Ye (V4 (bnk T.m_repr) (Qdb hG h66) QcH (Xj (Q8C (Q3d Q3T (k_read_store.kn hr hG) (Q0Q (Q3C (Xs 0)) (Q1T)))) (Xx))) (V4 (bnk T.m_repr) (Qdb hG h66) QcH (Xj (Xs 1) (Xx)))))) (K9))))
abbrev Q3H:Stmt:=top 61
theorem Qfr:FnScope ["_law_script", "_law_deck_here", "_law_turn", "_law_twice", "_law_store", "_law_text_here", "_law_again", "_law_thing", "_law_k", "_law_some"] ["_law_script"] (defScope Q3H):=⟨rfl,rfl,rfl,by decide +kernel,rfl,by decide +kernel,by decide +kernel⟩
noncomputable def Qkn:List Sl → Option Out:=Xu (QaW 1 0) (Xu (sIf (Q1G (fun δ=>toB (okR (Q0P [] W7 (Q1q (xOk (Yh [] true Z8 (kIo 1 (V2)))) (xAs V2))) δ))) (Xu (Vp (Xp (.bool false))) (Ym)) (Ym)) (Xu (Q63 [2,3,4,5,6,7] (Q1H (.nm 2) (Q4a (Xq (Xp (.int 3)) (Yg))) (Xu (Q1c 3 (fLc (.nm 8) [8] (Q4a (Xq (Xp (.int 12)) (Yg))) (Q0C) (Yh [] true Y0 (kIo 1 (Y8 (Xp (.int 2)) (V2)))))) (Xu (Vs 4 (Yh [] true Kv (kIo 1 (V2)))) (Xu (Vs 5 (Yh [] true Zd (Y8 (Xr 4) (V2)))) (Xu (Q63 [6,7] (Qhp 3 (Q1H (.nm 6) (fIt (Xr 3)) (Xu (Vs 7 (Yh [] true Q0o (kIo 1 (Y8 (Xr 5) (V2))))) (Xu (sIf (fun δ=>toB (f2 (bD eqD) (Xr 6) (Xp (.int 1)) δ)) (Xu (Vs 7 (Yh [] true Q0o (kIo 1 (Y8 (Xr 7) (V2))))) (Ym)) (Ym)) (Xu (sIf (gOr (Q1G (fun δ=>toB (okR (Q0P [] Zv (Q1q (xOk (Xr 7)) (xAs V2))) δ))) (fun δ=>toB (f2 (bD neD) (okR (Q0P [] Wi (Q1q (xOk (Xr 5)) (xAs V2)))) (Xr 4) δ))) (Xu (Vp (Xp (.bool false))) (Ym)) (Ym)) (Q08 [6,7]))))))) (Q08 [2,3,4,5,6,7]))))))) (Xu (Vs 9 (We (Xq (Xp (.str "")) (Xq (Xp (.str " ")) (Xq (Xp (.str "\n")) (Xq (Xp (.str "2 3")) (Xq (Xp (.str "2 3\n\n\n\n")) (Xq (Xp (.str "0")) (Xq (Xp (.str "\n\n\n\n")) (Xq (Xp (.str "2 3\n0\n0\n0\n0")) (Xq (Xp .none) (Xq (Xp (.bool true)) (Xq (Xp (.int 0)) (Xq (Xp (.int 5)) (Xq (Q0p (Yg)) (Xq (Q0p (Xq (Xp (.str "2 3")) (Yg))) (Xq (We (Yg)) (Xq (We (Xq (Xp (.str "2")) (Yg))) (Xq (QjU) (Yg)))))))))))))))))))) (Xu (Vp (f2 (bD eqD) (fLc (.nm 7) [7] (fIt (f2 Yr (Xr 9) (We (Xq (f2 Q33 (Xp (.int 10)) (Xp (.int 39))) (Xq (Q6Y (Q6k (Xp (.str "2")) (Xp (.int 3)) (Qf8))) (Xq (Q0p (Xq (Xp (.int 2)) (Xq (Xp (.int 3)) (Xq (f2 Vx (Q0p (Xq (Xp (.int 0)) (Yg))) (Xp (.int 111))) (Yg))))) (Yg))))))) (Q1G (fun δ=>toB (okR (Q0P [] Zv (Q1q (xOk (Xr 7)) (xAs V2))) δ))) (Xr 7)) (We (Yg)))) (Ym)))))
noncomputable def φ_law:List Sl → Option (D × List Sl):=fnF [false] 10 .n Qkn
theorem Qju (T:Txt K mg) (k__law_any_store:GK P w K mg base "_law_any_store" 6 1 .n Kv) (k__law_bent:GK P w K mg base "_law_bent" 5 2 .n Q0o) (k__law_deck:GKD P w K mg base "_law_deck" 1) (k__law_draw:GK P w K mg base "_law_draw" 1 2 .n Y0) (k__law_far_text:GK P w K mg base "_law_far_text" 3 1 .n Z8) (k__law_is_refused:GX P w K mg base "_law_is_refused" 6 1 0 (fun _=>false) (.f .n) W7) (k__law_is_so:GX P w K mg base "_law_is_so" 7 1 0 (fun _=>false) (.f .n) Zv) (k__law_text:GK P w K mg base "_law_text" 1 1 .n Zd) (k_read_store:GX P w K mg base "read_store" 5 1 0 (fun _=>false) (.f .n) Wi) {f:Addr} {fd:FuncData} (Fu:Fun K "law" "law" Q3H f fd):FnG P w K mg base CX0 8 f fd ["_law_script"] (spF K 1 .n φ_law):=by
 refine Wy Fu Qfr rfl fun cd A out s G E hG hr=>?_
 have S:=Qfr; have h1:=hu1 hr; have h65:=Z9 hr; have h66:=Zi hr; have h67:=Zl hr
 exact Xo (QgG rfl (tgk 1 S.nd) (nmk 0) (k__law_deck.kn hr hG)) (Xo (Wp (Zn (Zk (Q8C (Q3d Q3T (k__law_is_refused.kn hr hG) (Q0Q (Q3C (Ys (k__law_far_text.kn hr hG) (Vf (nmk 1) (Yb)))) (Q1T)))))) (Xo (Yv (Q4g)) (Y6)) (Y6)) (Xo (Q1w rfl (Q27 (passes_of rfl) rfl (Q0z rfl T.m_range (Xj (Xk) (Xx)) rfl (Q2M (Q4V))) (Yi (tgk 2 S.nd)) (by decide) (Xo (QcS (own:=[("_law_k",8)]) rfl S.nd rfl rfl rfl (Q0z rfl T.m_range (Xj (Xk) (Xx)) rfl (Q2M (Q4V))) (K8 (N:=["_law_script", "_law_deck_here", "_law_turn", "_law_twice", "_law_store", "_law_text_here", "_law_again", "_law_thing", "_law_k", "_law_some"]) (sc:=defScope Q3H) (by decide +kernel)) (fun _ _ _ _ _=>Yi (tgk 8 S.nd)) (fun _ _ _ _ _=>Kf) (fun _ _ _ _ _=>Ys (k__law_draw.kn hr hG) (Vf (nmk 1) (Xy (Xk) (Yb)))) (by intro _; rfl) (by decide) (by decide) rfl) (Xo (V0 rfl (tgk 4 S.nd) (Ys (k__law_any_store.kn hr hG) (Vf (nmk 1) (Yb)))) (Xo (V0 rfl (tgk 5 S.nd) (Ys (k__law_text.kn hr hG) (Xy (Xs 4) (Yb)))) (Xo (Q1w rfl (QiN (i:=3) rfl (Q27 (passes_of rfl) rfl (K1 (Xs 3)) (Yi (tgk 6 S.nd)) (by decide) (Xo (V0 rfl (tgk 7 S.nd) (Ys (k__law_bent.kn hr hG) (Vf (nmk 1) (Xy (Xs 5) (Yb))))) (Xo (Wp (Yx (Kj h65).op Ye (Xs 6) (Xk)) (Xo (V0 rfl (tgk 7 S.nd) (Ys (k__law_bent.kn hr hG) (Vf (nmk 1) (Xy (Xs 7) (Yb))))) (Y6)) (Y6)) (Xo (Wp (WV.tv (Q2s (Zn (Zk (Q8C (Q3d Q3T (k__law_is_so.kn hr hG) (Q0Q (Q3C (Xs 7)) (Q1T)))))) (Q2L (Yx (Q0O h65).op Ye (Q8C (Q3d Q3T (k_read_store.kn hr hG) (Q0Q (Q3C (Xs 5)) (Q1T)))) (Xs 4))))) (Xo (Yv (Q4g)) (Y6)) (Y6)) (Zb rfl))))))) (Zb rfl))))))) (Xo (V0 rfl (tgk 9 S.nd) (NV.ev (Ve (Xj (Ya) (Xj (Ya) (Xj (Ya) (Xj (Ya) (Xj (Ya) (Xj (Ya) (Xj (Ya) (Xj (Ya) (Xj (Q2R) (Xj (Q4g) (Xj (Xk) (Xj (Xk) (Xj (Wu (Xx)) (Xj (Wu (Xj (Ya) (Xx))) (Xj (NV.ev (Ve (Xx))) (Xj (NV.ev (Ve (Xj (Ya) (Xx)))) (Xj (NV.ev (Qhg)) (Xx))))))))))))))))))))) (Xo (Yv (Q2A (Kj h65).op Ye (NV.ev (Q1L (own:=[("_law_thing",7)]) rfl S.nd (K1 (Xt Xw Xv (Xs 9) (NV.ev (Ve (Xj (Xt op_pow Q4O (Xk) (Xk)) (Xj (NV.ev (Q9W (Q6K (Ya) (Xk) (QbA)))) (Xj (Wu (Xj (Xk) (Xj (Xk) (Xj (Xt Yu Yt (Wu (Xj (Xk) (Xx))) (Xk)) (Xx))))) (Xx)))))))) (K8 (N:=["_law_script", "_law_deck_here", "_law_turn", "_law_twice", "_law_store", "_law_text_here", "_law_again", "_law_thing", "_law_k", "_law_some"]) (sc:=defScope Q3H) (by decide +kernel)) (fun _ _ _ _ _=>Yi (tgk 7 S.nd)) (fun _ _ _ _ _=>Q5m (Zn (Zk (Q8C (Q3d Q3T (k__law_is_so.kn hr hG) (Q0Q (Q3C (Xs 7)) (Q1T))))))) (fun _ _ _ _ _=>Xs 7))) (NV.ev (Ve (Xx))))) (Y6)))))
end
end K05
namespace K05
open PySem PySem.Spec PyProof.Rows L2 Z
def Q0a (thing:Int):Option Bool:=(some (true && (!false)))
theorem Q3n (thing:Int):∀ v,Q0a thing = some v → Kb [.fz (Q0 thing)] = some ((Qj v),[.fz (Q0 thing)]):=by
 exact Zt (Z1 (Q9B (Q88 (Xi 0 rfl) (rfl)) (QeS (Q88 (Xi 0 rfl) (rfl)))) rfl)
def Q00 (heads:Int) (blocks:Int):Option Bool:=((((Q0a heads)).bind fun r1=>if (!r1) then some true else (((Q0a blocks)).map fun r2=>(!r2)))).bind fun b4=>if b4 then (some false) else (some ((decide (2 ≤ heads) && decide (heads ≤ 8)) && (decide (3 ≤ blocks) && decide (blocks ≤ 12))))
theorem Q7X (heads:Int) (blocks:Int):∀ v,Q00 heads blocks = some v → Q03 [.fz (Q0 heads),.fz (Q0 blocks)] = some ((Qj v),[.fz (Q0 heads),.fz (Q0 blocks)]):=by
 exact Zt (Q25 (Q4Q (Q0S (Q0b (Y7 (Y3 (Xi 0 rfl) Y9) (Q3n _ )) (fun _=>rfl))) (fun _=>rfl) (fun r1=>(Q0w (r':=fun (c3:Bool)=>(c3,[.fz (Q0 heads),.fz (Q0 blocks)])) (Q0S (Q0b (Y7 (Y3 (Xi 1 rfl) Y9) (Q3n _ )) (fun _=>rfl))) (fun _=>rfl))) (fun _=>rfl)) (fun _=>rfl) (fun b4=>(Vt (Z1 (Xh:VP _ _ (.bool false)) rfl))) (fun b4=>(Wb (Z1 (Q9B (Qbi (Xh:VP _ _ (.int 2)) (Xi 0 rfl) (Xh:VP _ _ (.int 8)) (Qcf _ _) (Qcf _ _)) (Qbi (Xh:VP _ _ (.int 3)) (Xi 1 rfl) (Xh:VP _ _ (.int 12)) (Qcf _ _) (Qcf _ _))) rfl))))
def Zf (heads:Int) (blocks:Int):Option Int:=(Q23 (1 + 4) blocks).bind fun v1=>(some (((7 * heads) + v1) + 82))
theorem Q5u (heads:Int) (blocks:Int):∀ v,Zf heads blocks = some v → Ko [.fz (Q0 heads),.fz (Q0 blocks)] = some ((Q0 v),[.fz (Q0 heads),.fz (Q0 blocks)]):=by
 exact Zt (Vb (Wz (Y1 (Wz (Yz (Yo (Xh:VP _ _ (.int 7)) (Xi 0 rfl) (Vq _ _ rfl)) (Y1 (Yw (q:=Q23 (1 + 4) blocks) (e:=Q0) (Yo (Xh:VP _ _ (.int 1)) (Xh:VP _ _ (.int 4)) (Yc _ _)) (Xi 1 rfl) (fun _ h=>Q74 _ _ _ h)) (fun v1=>Xm))) (fun v1=>g2x (Yc _ _))) (fun v1=>(Xl (Xh:VP _ _ (.int 82)) Xm))) (fun v1=>g2x (Yc _ _))) (fun _=>rfl))
def Q0A (thing:(Int × Int × (List Int))):Option Bool:=((if (!true) then some true else (if (!decide (3 = 3)) then some true else (((Q00 thing.1 thing.2.1)).map fun r1=>(!r1))))).bind fun b5=>if b5 then (some false) else ((if (!true) then some true else (((Zf thing.1 thing.2.1)).map fun r7=>(!decide ((W0 thing.2.2) = r7))))).bind fun b9=>if b9 then (some false) else ((K5 thing.2.2 (mapM (fun x10=>(Q0a x10)) thing.2.2))).bind fun l12=>(some (l12.all id))
theorem QbV (thing:(Int × Int × (List Int))):∀ v,Q0A thing = some v → Q21 [.fz ((eP3 Q0 Q0 (eTu Q0)) thing)] = some ((Qj v),[.fz ((eP3 Q0 Q0 (eTu Q0)) thing)]):=by
 exact Zt (Xz (δ':=[.fz (Q0c thing),.no,.no]) (Q25 (Q68 (v:=true) (Q9l (Kt (Q88 (Xi 0 rfl) (rfl)))) (Q7J (r':=fun (c4:Bool)=>(c4,[.fz (Q0c thing),.no,.no])) (Q68 (v:=true) (Kt (Yo (Q0q (Xl (Xi 0 rfl) Xm) (rfl)) (Xh:VP _ _ (.int 3)) (Q4t gI _ _))) (Q0w (r':=fun (c2:Bool)=>(c2,[.fz (Q0c thing),.no,.no])) (Q0S (Q0b (Y7 (Y3 (Yo (Xi 0 rfl) (Xh:VP _ _ (.int 0)) (Qhn _ _)) (Y3 (Yo (Xi 0 rfl) (Xh:VP _ _ (.int 1)) (QeH _ _ _)) Y9)) (Q7X _ _ )) (fun _=>rfl))) (fun _=>rfl)) rfl) (fun _=>rfl)) rfl) (fun _=>rfl) (fun b5=>(Vt (Z1 (Xh:VP _ _ (.bool false)) rfl))) (fun b5=>(Wb (Q7g (Yo (Xi 0 rfl) (Xh:VP _ _ (.int 2)) (ixp2 _ _ _ _)) (Xz (δ':=[.fz (Q0c thing),.fz ((eTu Q0) thing.2.2),.no]) (Q25 (Q68 (v:=true) (Q9l (Kt (Q88 (Xi 1 rfl) (rfl)))) (Q0w (r':=fun (c8:Bool)=>(c8,[.fz (Q0c thing),.fz ((eTu Q0) thing.2.2),.no])) (Q0b (Wz (Yz (Q0q (Xl (Xi 1 rfl) Xm) (Qjl _)) (Y1 (Y7 (Y3 (Yo (Xi 0 rfl) (Xh:VP _ _ (.int 0)) (Qhn _ _)) (Y3 (Yo (Xi 0 rfl) (Xh:VP _ _ (.int 1)) (QeH _ _ _)) Y9)) (Q5u _ _ )) (fun r7=>Xm))) (fun r7=>g2x (Q4t gI _ _))) (fun _=>rfl)) (fun _=>rfl)) rfl) (fun _=>rfl) (fun b9=>(Vt (Z1 (Xh:VP _ _ (.bool false)) rfl))) (fun b9=>(Wb (Vb (Q9L (Y1 (Q3Y (e:=Q0) (e':=Qj) (Q2V (Xi 1 rfl) (QhU _)) (fun x10=>(Vh 2)) (fun x10=>(QaC (Y7 (Y3 (Xi 2 rfl) Y9) (Q3n _ )) (fun _=>rfl)))) (fun l12=>Xm)) (fun l12=>Qia _)) (fun _=>rfl)))))))))))
def Q1N (heads:Int):Option Int:=(some (7 * heads))
theorem Q6p (heads:Int):∀ v,Q1N heads = some v → Ze [.fz (Q0 heads)] = some ((Q0 v),[.fz (Q0 heads)]):=by
 exact Zt (Z1 (Yo (Xh:VP _ _ (.int 7)) (Xi 0 rfl) (Vq _ _ rfl)) rfl)
def Q0F (heads:Int) (blocks:Int):Option Int:=((Q1N heads)).bind fun r1=>(some (r1 + blocks))
theorem Q4d (heads:Int) (blocks:Int):∀ v,Q0F heads blocks = some v → K6 [.fz (Q0 heads),.fz (Q0 blocks)] = some ((Q0 v),[.fz (Q0 heads),.fz (Q0 blocks)]):=by
 exact Zt (Vb (Wz (Y1 (Y7 (Y3 (Xi 0 rfl) Y9) (Q6p _ )) (fun r1=>(Xl (Xi 1 rfl) Xm))) (fun r1=>g2x (Yc _ _))) (fun _=>rfl))
def Q3k (heads:Int) (blocks:Int):Option Int:=((Q0F heads blocks)).bind fun r1=>(some (r1 + (4 * blocks)))
theorem Qat (heads:Int) (blocks:Int):∀ v,Q3k heads blocks = some v → Q1b [.fz (Q0 heads),.fz (Q0 blocks)] = some ((Q0 v),[.fz (Q0 heads),.fz (Q0 blocks)]):=by
 exact Zt (Vb (Wz (Y1 (Y7 (Y3 (Xi 0 rfl) (Y3 (Xi 1 rfl) Y9)) (Q4d _ _ )) (fun r1=>(Xl (Yo (Xh:VP _ _ (.int 4)) (Xi 1 rfl) (Vq _ _ rfl)) Xm))) (fun r1=>g2x (Yc _ _))) (fun _=>rfl))
def Q1p (heads:Int) (blocks:Int):Option (List (Int × Int)):=((((Q1N heads)).bind fun r1=>((((Q0F heads blocks)).bind fun r2=>((((Q3k heads blocks)).bind fun r3=>((Zf heads blocks)).map fun r4=>(r3,r4))).map fun b5=>(r2,b5))).map fun b6=>(r1,b6))).bind fun b7=>Q2f ([0,b7.1,b7.2.1,b7.2.2.1,b7.2.2.2]) fun ends_8=>(some (((Yn ends_8 none (some (-1)))).zip (Yn ends_8 (some 1) none)))
theorem QbT (heads:Int) (blocks:Int):∀ v,Q1p heads blocks = some v → Q1W [.fz (Q0 heads),.fz (Q0 blocks)] = some (((eLi (eP2 Q0 Q0)) v),[.fz (Q0 heads),.fz (Q0 blocks)]):=by
 exact Zt (Q2E (e:=Y2) (Q04 (z:=fun b7=>(Y2 ([0,b7.1,b7.2.1,b7.2.2.1,b7.2.2.2]))) (Q1x (Yz (Xh:VP _ _ (.int 0)) (Wf (Y7 (Y3 (Xi 0 rfl) Y9) (Q6p _ )) (fun r1=>(Wf (Y7 (Y3 (Xi 0 rfl) (Y3 (Xi 1 rfl) Y9)) (Q4d _ _ )) (fun r2=>(Wf (Y7 (Y3 (Xi 0 rfl) (Y3 (Xi 1 rfl) Y9)) (Qat _ _ )) (fun r3=>(Y1 (Y7 (Y3 (Xi 0 rfl) (Y3 (Xi 1 rfl) Y9)) (Q5u _ _ )) (fun r4=>Xm)))))))))) (fun _=>rfl)) (fun _=>rfl) (fun b7 ends_8=>(Z1 (Q0q (Xl (Q0d (Xi 2 rfl) Vc (Yq (Q88 (Xh:VP _ _ (.int 1)) (Qkx _))) (K3 _ _ _)) (Xl (Q0d (Xi 2 rfl) (Yq (Xh:VP _ _ (.int 1))) Vc (K3 _ _ _)) Xm)) (QgW _ _ _ _)) rfl)))
def Q06 (word:Str):Option ((Str) ⊕ Int):=((Q0v word none (some 1)).bind fun v2=>if (decide (v2 = ("-":Str))) then (Q0v word (some 1) none).bind fun v4=>(some v4) else (some word)).bind fun s3=>((((Q5z s3)).bind fun v6=>if (!(decide (1 ≤ v6) && decide (v6 ≤ 40))) then some true else (((K5 (chN s3) (mapM (fun x7=>(inD (Q3 x7) (Q3 ("0123456789":Str)))) (chN s3)))).map fun l9=>(!(l9.all id))))).bind fun b11=>if b11 then (some (Jx ("NoText":Str))) else ((((sIx s3 0)).bind fun v12=>if (decide (v12 = ("0":Str))) then (some (!decide (word = ("0":Str)))) else some false)).bind fun b14=>if b14 then (some (Jx ("NoText":Str))) else ((Q0t word)).bind fun v15=>(some (Sum.inr v15))
theorem Qb3 (word:Str):∀ v,Q06 word = some v → Q1a [.fz (Q3 word)] = some (eX (fun e=>e) (fun e=>[.fz (Q3 word)]) (fun v=>(Q0 v)) (fun v=>[.fz (Q3 word)]) v):=by
 exact QiD (Xz (δ':=[.fz (Q3 word),.no,.no]) (Qa8 Q4S (Q7g (Xi 0 rfl) (Xz (δ':=[.fz (Q3 word),.fz (Q3 word),.no]) (Qa8 (Qk3 (QiB Q4S QeQ) QeQ) (Q1g (st:=fun s3=>[.fz (Q3 word),.fz (Q3 s3),.no]) (Qgo (Q0b (Wz (Y1 (Q6C (q:=Q0v word none (some 1)) (e:=Q3) (Xi 0 rfl) Vc (Yq (Xh:VP _ _ (.int 1))) (fun _ h=>Q6D _ _ _ _ h)) (fun v2=>(Xl (Xh:VP _ _ (.str ("-":Str))) Xm))) (fun v2=>g2x (Q1I gS _ _))) (fun _=>rfl)) (fun _=>rfl) (fun v2=>(Vk (Q6C (q:=Q0v word (some 1) none) (e:=Q3) (Xi 0 rfl) (Yq (Xh:VP _ _ (.int 1))) Vc (fun _ h=>Q6D _ _ _ _ h)) (fun v4=>(Zm (v:=v4) rfl)))) (fun v2=>(Zm (v:=word) rfl))) (fun s3=>(Xz (δ':=[.fz (Q3 word),.fz (Q3 s3),.no]) (Q5T (Q4Q (Q0S (Q0b (Q7K (Yz (Xh:VP _ _ (.int 1)) (Y1 (Q4k (q:=(Q5z s3)) (e:=Q0) (Xl (Xi 1 rfl) Xm) (fun _ h=>Q96 _ _ h)) (fun v6=>Xm))) (fun _=>rfl) (fun v6=>(Xh:VP _ _ (.int 40))) (fun _=>Qcf _ _) (fun _=>Qcf _ _)) (fun _=>rfl))) (fun _=>rfl) (fun v6=>(Q0w (r':=fun (c10:Bool)=>(c10,[.fz (Q3 word),.fz (Q3 s3),.no])) (Q0S (Q0b (Q9L (Y1 (Q3Y (e:=Q3) (e':=Qj) (Q2V (Xi 1 rfl) (Qig _)) (fun x7=>(Vh 2)) (fun x7=>(QaC (Yw (q:=(inD (Q3 x7) (Q3 ("0123456789":Str)))) (e:=Qj) (Xi 2 rfl) (Xh:VP _ _ (.str ("0123456789":Str))) (fun _ h=>Qar _ _ h)) (fun _=>rfl)))) (fun l9=>Xm)) (fun l9=>Qia _)) (fun _=>rfl))) (fun _=>rfl))) (fun _=>rfl)) (fun _=>rfl) (fun b11=>(Q0N (Xz (δ':=[.fz (Q3 word),.fz (Q3 s3),.no]) (Q2h (v:=(Jx ("NoText":Str))) rfl)))) (fun b11=>(Q1M (Xz (δ':=[.fz (Q3 word),.fz (Q3 s3),.no]) (Q5T (Qd6 (Q0b (Wz (Y1 (Yw (q:=(sIx s3 0)) (e:=Q3) (Xi 1 rfl) (Xh:VP _ _ (.int 0)) (fun _ h=>Qg1 _ _ _ h)) (fun v12=>(Xl (Xh:VP _ _ (.str ("0":Str))) Xm))) (fun v12=>g2x (Q1I gS _ _))) (fun _=>rfl)) (fun _=>rfl) (fun v12=>(Qcu (v:=(!decide (word = ("0":Str)))) (r':=fun (c13:Bool)=>(c13,[.fz (Q3 word),.fz (Q3 s3),.no])) (Kt (Yo (Xi 0 rfl) (Xh:VP _ _ (.str ("0":Str))) (Q4t gS _ _))) rfl)) (fun _=>rfl)) (fun _=>rfl) (fun b14=>(Q0N (Xz (δ':=[.fz (Q3 word),.fz (Q3 s3),.no]) (Q2h (v:=(Jx ("NoText":Str))) rfl)))) (fun b14=>(Q1M (Xz (δ':=[.fz (Q3 word),.fz (Q3 s3),.no]) (Q9Y (Q4k (q:=(Q0t word)) (e:=Q0) (Xl (Xi 0 rfl) Xm) (fun _ h=>Qdl _ _ h)) (fun _=>rfl))))))))))))))))))
def Vm (text:D):Option ((Str) ⊕ (Int × Int × (List Int))):=if (!(Q7A "str" text)) then (some (Jx ("NoText":Str))) else ((((((asS text)).bind fun c1=>((Q0U c1 ("\n":Str))).map fun v3=>(c1,v3))).bind fun b2=>(K5 b2.2 (Q7G (fun x4=>(((((Q0U x4 (" ":Str))).bind fun v5=>(K5 v5 (Q7G (fun x6=>(Q06 x6)) v5)).map (Sum.map (fun z11=>(v5,z11)) (fun z12=>(v5,z12))))).map (Sum.map (fun (e10:(_ × Str))=>(e10.2:Str)) (fun (r9:(_ × (List Int)))=>r9.2)))) b2.2)).map (Sum.map (fun z15=>(b2,z15)) (fun z16=>(b2,z16))))).bind (X2 (fun e14=>some (Jx e14.2)) fun r13=>((if (!decide ((W0 r13.2) = 5)) then some true else (((atI r13.2 0)).bind fun v17=>if (!decide ((W0 v17) = 2)) then some true else (((((((((atI r13.2 0)).bind fun v18=>((atI v18 0)).map fun v20=>(v18,v20))).bind fun b19=>((((atI r13.2 0)).bind fun v21=>((atI v21 1)).map fun v23=>(v21,v23))).map fun b22=>(b19,b22))).bind fun b24=>(Q00 b24.1.2 b24.2.2).map fun v26=>(b24,v26))).map fun r25=>(!r25.2))))).bind fun b30=>if b30 then (some (Jx ("NoText":Str))) else ((atI r13.2 0)).bind fun v31=>(QbC v31).bind fun t32=>((((Q1p t32.1 t32.2)).bind fun r33=>(Q8r (fun x34=>(x34.2 - x34.1)) r33).map fun v37=>(r33,v37))).bind fun l36=>((Q8r (fun x39=>(W0 x39)) (Yn r13.2 (some 1) none))).bind fun l40=>if (!decide (l40 = l36.2)) then (some (Jx ("NoText":Str))) else ((((((((((((((atI r13.2 1)).bind fun v41=>((atI r13.2 2)).map fun v42=>(v41,v42))).bind fun b43=>(Wg b43.1 b43.2).map fun v45=>(b43,v45))).bind fun b44=>((atI r13.2 3)).map fun v46=>(b44,v46))).bind fun b47=>(Wg b47.1.2 b47.2).map fun v49=>(b47,v49))).bind fun b48=>((atI r13.2 4)).map fun v50=>(b48,v50))).bind fun b51=>(Wg b51.1.2 b51.2).map fun v53=>(b51,v53))).bind fun b52=>Q2f (t32.1,t32.2,b52.2) fun found_54=>((Q0A found_54)).bind fun r55=>if (!r55) then (some (Jx ("NoText":Str))) else (some (Sum.inr found_54)))
theorem Q2N (text:D):∀ v,Vm text = some v → Wi [.fz text] = some (eX (fun e=>e) (fun e=>[.fz text]) (fun v=>((eP3 Q0 Q0 (eTu Q0)) v)) (fun v=>[.fz text]) v):=by
 exact QiD (Xz (δ':=[.fz text,.no,.no,.no,.no,.no,.no,.no,.no,.no,.no]) (QhR (Q9l (Kt (Q88 (Xi 0 rfl) (rfl)))) (Q0N (Xz (δ':=[.fz text,.no,.no,.no,.no,.no,.no,.no,.no,.no,.no]) (Q2h (v:=(Jx ("NoText":Str))) rfl))) (Q1M (Xz (δ':=[.fz text,.no,.no,.no,.no,.no,.no,.no,.no,.no,.no]) (Qjn (QeA (δ:=[.fz text,.no,.no,.no,.no,.no,.no,.no,.no,.no,.no]) (e':=Y2) (Q73 (V6 (e:=fun _=>(eLi Q3)) (Y1 (Q4w (q:=asS text) (e:=Q3) (Xi 0 rfl) ((Qil) _)) (fun c1=>(Xl (Xh:VP _ _ (.str ("\n":Str))) Xm))) (fun c1 _ h=>g2x (Q5R _ _ _ h))) (fun _=>Q2u _)) (fun b2=>by exact (Qfq (δ:=[.fz text,.no,.no,.no,.no,.no,.no,.no,.no,.no,.no]) (e:=Q3) (e':=Y2) Q1A (fun x4=>(Vh 2)) (fun x4=>by exact (QiM (δ:=[.fz text,.no,.fz (Q3 x4),.no,.no,.no,.no,.no,.no,.no,.no]) (ce:=fun (e10:(_ × Str))=>(e10.2:Str)) (e':=Y2) (by exact (QeA (δ:=[.fz text,.no,.fz (Q3 x4),.no,.no,.no,.no,.no,.no,.no,.no]) (e':=Q0) (Q73 (Yw (q:=(Q0U x4 (" ":Str))) (e:=(eLi Q3)) (Xi 2 rfl) (Xh:VP _ _ (.str (" ":Str))) (fun _ h=>Q5R _ _ _ h)) (fun _=>Q2u _)) (fun v5=>by exact (Qfq (δ:=[.fz text,.no,.fz (Q3 x4),.no,.no,.no,.no,.no,.no,.no,.no]) (e:=Q3) (e':=Q0) Q1A (fun x6=>(Vh 3)) (fun x6=>by exact (Qj1 (δ:=[.fz text,.no,.fz (Q3 x4),.fz (Q3 x6),.no,.no,.no,.no,.no,.no,.no]) (by exact (QcE (Q2D (Xi 3 rfl) Q3e) (Qb3 _ ))))))))) (fun (r9:(_ × (List Int)))=>r9.2)))))) (fun _=>rfl) (fun r13=>(Xz (δ':=[.fz text,.fz ((eLi Y2) r13.2),.no,.no,.no,.no,.no,.no,.no,.no,.no]) (Q5T (Q68 (v:=true) (Kt (Yo (Q0q (Xl (Xi 1 rfl) Xm) (Kr _)) (Xh:VP _ _ (.int 5)) (Q4t gI _ _))) (Q7J (r':=fun (c29:Bool)=>(c29,[.fz text,.fz ((eLi Y2) r13.2),.no,.no,.no,.no,.no,.no,.no,.no,.no])) (Q4Q (Q0b (Wz (Y1 (Q9L (Y1 (Yw (q:=(atI r13.2 0)) (e:=Y2) (Xi 1 rfl) (Xh:VP _ _ (.int 0)) (fun _ h=>K4 _ _ _ h)) (fun v17=>Xm)) (fun v17=>Kr _)) (fun v17=>(Xl (Xh:VP _ _ (.int 2)) Xm))) (fun v17=>g2x (Q4t gI _ _))) (fun _=>rfl)) (fun _=>rfl) (fun v17=>(Q0w (r':=fun (c27:Bool)=>(c27,[.fz text,.fz ((eLi Y2) r13.2),.no,.no,.no,.no,.no,.no,.no,.no,.no])) (Q0S (Q0b (K7 (Qbp (V6 (e:=fun _=>Q0) (Y1 (Yw (q:=(atI r13.2 0)) (e:=Y2) (Xi 1 rfl) (Xh:VP _ _ (.int 0)) (fun _ h=>K4 _ _ _ h)) (fun v18=>(Xl (Xh:VP _ _ (.int 0)) Xm))) (fun v18 _ h=>g2x (K4 _ _ _ h))) (fun b19=>(Q2t (V6 (e:=fun _=>Q0) (Y1 (Yw (q:=(atI r13.2 0)) (e:=Y2) (Xi 1 rfl) (Xh:VP _ _ (.int 0)) (fun _ h=>K4 _ _ _ h)) (fun v21=>(Xl (Xh:VP _ _ (.int 1)) Xm))) (fun v21 _ h=>g2x (K4 _ _ _ h))) (fun b22=>Y9)))) (fun b24=>Q7X b24.1.2 b24.2.2)) (fun _=>rfl))) (fun _=>rfl))) (fun _=>rfl)) (fun _=>rfl)) rfl) (fun _=>rfl) (fun b30=>(Q0N (Xz (δ':=[.fz text,.fz ((eLi Y2) r13.2),.no,.no,.no,.no,.no,.no,.no,.no,.no]) (Q2h (v:=(Jx ("NoText":Str))) rfl)))) (fun b30=>(Q1M (Xz (δ':=[.fz text,.fz ((eLi Y2) r13.2),.no,.no,.no,.no,.no,.no,.no,.no,.no]) (Qa8 QgD (Qbx (δx:=fun v31 t32=>[.fz text,.fz ((eLi Y2) r13.2),.no,.no,.fz (Q0 t32.1),.fz (Q0 t32.2),.no,.no,.no,.no,.no]) (ee:=Q0) (xs:=fun v31=>v31) (show VN _ _ ((atI r13.2 0)) _ from (Yw (q:=(atI r13.2 0)) (e:=Y2) (Xi 1 rfl) (Xh:VP _ _ (.int 0)) (fun _ h=>K4 _ _ _ h))) (fun _=>rfl) (fun v31 t32=>(Vi (Vh 4) (Vi (Vh 5) Q0i))) (fun v31 t32=>(Xz (δ':=[.fz text,.fz ((eLi Y2) r13.2),.no,.no,.fz (Q0 t32.1),.fz (Q0 t32.2),.no,.no,.no,.no,.no]) (Qa8 Qjs (Q1R (Q4B (Q73 (Y7 (Y3 (Xi 4 rfl) (Y3 (Xi 5 rfl) Y9)) (QbT _ _ )) (fun _=>Q2u _)) (fun r33=>(Qc4 (e:=(eP2 Q0 Q0)) (e':=Q0) Q1A (fun x34=>(Q2y (Vi (Vh 7) (Vi (Vh 8) Q0i)))) (fun x34=>(Yo (Xi 8 rfl) (Xi 7 rfl) (Vz _ _)))))) (fun l36=>(Xz (δ':=[.fz text,.fz ((eLi Y2) r13.2),.no,.no,.fz (Q0 t32.1),.fz (Q0 t32.2),.ow (Y2 l36.2),.no,.no,.no,.no]) (Q5T (Q0b (Wz (Y1 (Qc4 (e:=Y2) (e':=Q0) (Q2V (Q0d (Xi 1 rfl) (Yq (Xh:VP _ _ (.int 1))) Vc (K3 _ _ _)) (Q2u _)) (fun x39=>(Vh 9)) (fun x39=>(Q0q (Xl (Xi 9 rfl) Xm) (Kr _)))) (fun l40=>(Xl (Z2 6 rfl:VP _ _ (Y2 l36.2)) Xm))) (fun l40=>g2x (Q4t (gLi gI) _ _))) (fun _=>rfl)) (fun _=>rfl) (fun l40=>(Q0N (Xz (δ':=[.fz text,.fz ((eLi Y2) r13.2),.no,.no,.fz (Q0 t32.1),.fz (Q0 t32.2),.ow (Y2 l36.2),.no,.no,.no,.no]) (Q2h (v:=(Jx ("NoText":Str))) rfl)))) (fun l40=>(Q1M (Xz (δ':=[.fz text,.fz ((eLi Y2) r13.2),.no,.no,.fz (Q0 t32.1),.fz (Q0 t32.2),.ow (Y2 l36.2),.no,.no,.no,.no]) (Qa8 Q4S (Q2E (e:=Q0c) (Q04 (z:=fun b52=>(Q0c (t32.1,t32.2,b52.2))) (Q4G (Yz (Xi 4 rfl) (Yz (Xi 5 rfl) (Y1 (Q9L (Y1 (V6 (e:=fun _=>Y2) (Wf (V6 (e:=fun _=>Y2) (Wf (V6 (e:=fun _=>Y2) (Wf (Yw (q:=(atI r13.2 1)) (e:=Y2) (Xi 1 rfl) (Xh:VP _ _ (.int 1)) (fun _ h=>K4 _ _ _ h)) (fun v41=>(Y1 (Yw (q:=(atI r13.2 2)) (e:=Y2) (Xi 1 rfl) (Xh:VP _ _ (.int 2)) (fun _ h=>K4 _ _ _ h)) (fun v42=>Xm)))) (fun b43 _ h=>g2x (W4 _ _ _ h))) (fun b44=>(Y1 (Yw (q:=(atI r13.2 3)) (e:=Y2) (Xi 1 rfl) (Xh:VP _ _ (.int 3)) (fun _ h=>K4 _ _ _ h)) (fun v46=>Xm)))) (fun b47 _ h=>g2x (W4 _ _ _ h))) (fun b48=>(Y1 (Yw (q:=(atI r13.2 4)) (e:=Y2) (Xi 1 rfl) (Xh:VP _ _ (.int 4)) (fun _ h=>K4 _ _ _ h)) (fun v50=>Xm)))) (fun b51 _ h=>g2x (W4 _ _ _ h))) (fun b52=>Xm)) (fun b52=>Q83 _)) (fun b52=>Xm))))) (fun _=>rfl)) (fun _=>rfl) (fun b52 found_54=>(Xz (δ':=[.fz text,.fz ((eLi Y2) r13.2),.no,.no,.fz (Q0 t32.1),.fz (Q0 t32.2),.ow (Y2 l36.2),.no,.no,.no,.fz (Q0c found_54)]) (Q5T (Q0S (Q0b (Y7 (Y3 (Xi 10 rfl) Y9) (QbV _ )) (fun _=>rfl))) (fun _=>rfl) (fun r55=>(Q0N (Xz (δ':=[.fz text,.fz ((eLi Y2) r13.2),.no,.no,.fz (Q0 t32.1),.fz (Q0 t32.2),.ow (Y2 l36.2),.no,.no,.no,.fz (Q0c found_54)]) (Q2h (v:=(Jx ("NoText":Str))) rfl)))) (fun r55=>(Q1M (Xz (δ':=[.fz text,.fz ((eLi Y2) r13.2),.no,.no,.fz (Q0 t32.1),.fz (Q0 t32.2),.ow (Y2 l36.2),.no,.no,.no,.fz (Q0c found_54)]) (QbF (Xi 10 rfl) rfl))))))))))))))))))))))))))))))))
theorem Vr (k:Dk) (M:Int):∀ v,W2 k M = some v → Y0 [sDk k,.fz (.int M)] = some (.int v.1,[sDk v.2,.fz (.int M)]):=QgH k M
def Q2v (deck:Dk) (some_:(List Int)):Option (Int × Dk):=((((W2 deck (W0 some_))).bind fun r1=>((atI some_ r1.1)).map fun v3=>(r1,v3))).bind fun b2=>(some (b2.2,b2.1.2))
theorem Q7b (deck:Dk) (some_:(List Int)):∀ v,Q2v deck some_ = some v → V1 [sDk deck,.fz ((eLi Q0) some_)] = some ((Q0 v.1),[sDk v.2,.fz ((eLi Q0) some_)]):=by
 exact Zt (Vb (V6 (e:=fun _=>Q0) (Yz (Xi 1 rfl) (Y1 (Y7 (Vn 0 (Y3 (Q0q (Xl (Xi 1 rfl) Xm) (Kr _)) Y9)) (Vr _ _ )) (fun r1=>Xm))) (fun r1 _ h=>g2x (K4 _ _ _ h))) (fun _=>rfl))
def W5 (deck:Dk) (some_:(List Str)):Option (Str × Dk):=((((W2 deck (W0 some_))).bind fun r1=>((atI some_ r1.1)).map fun v3=>(r1,v3))).bind fun b2=>(some (b2.2,b2.1.2))
theorem Q1E (deck:Dk) (some_:(List Str)):∀ v,W5 deck some_ = some v → V1 [sDk deck,.fz ((eLi Q3) some_)] = some ((Q3 v.1),[sDk v.2,.fz ((eLi Q3) some_)]):=by
 exact Zt (Vb (V6 (e:=fun _=>Q3) (Yz (Xi 1 rfl) (Y1 (Y7 (Vn 0 (Y3 (Q0q (Xl (Xi 1 rfl) Xm) (Kr _)) Y9)) (Vr _ _ )) (fun r1=>Xm))) (fun r1 _ h=>g2x (K4 _ _ _ h))) (fun _=>rfl))
def Wl (deck:Dk) (some_:(List Str)):Option (Str × Dk):=((((W2 deck (W0 some_))).bind fun r1=>((atI some_ r1.1)).map fun v3=>(r1,v3))).bind fun b2=>(some (b2.2,b2.1.2))
theorem Q34 (deck:Dk) (some_:(List Str)):∀ v,Wl deck some_ = some v → V1 [sDk deck,.fz ((eLi Q3) some_)] = some ((Q3 v.1),[sDk v.2,.fz ((eLi Q3) some_)]):=by
 exact Zt (Vb (V6 (e:=fun _=>Q3) (Yz (Xi 1 rfl) (Y1 (Y7 (Vn 0 (Y3 (Q0q (Xl (Xi 1 rfl) Xm) (Kr _)) Y9)) (Vr _ _ )) (fun r1=>Xm))) (fun r1 _ h=>g2x (K4 _ _ _ h))) (fun _=>rfl))
def Wm (deck:Dk) (some_:Str):Option (Str × Dk):=((((((Q5z some_)).bind fun v1=>(W2 deck v1).map fun v3=>(v1,v3))).bind fun r2=>((sIx some_ r2.2.1)).map fun v5=>(r2,v5))).bind fun b4=>(some (b4.2,b4.1.2.2))
theorem Q35 (deck:Dk) (some_:Str):∀ v,Wm deck some_ = some v → V1 [sDk deck,.fz (Q3 some_)] = some ((Q3 v.1),[sDk v.2,.fz (Q3 some_)]):=by
 exact Zt (Vb (V6 (e:=fun _=>Q3) (Yz (Xi 1 rfl) (Y1 (K7 (Q4C 0 (Q2t (Q4k (q:=(Q5z some_)) (e:=Q0) (Xl (Xi 1 rfl) Xm) (fun _ h=>Q96 _ _ h)) (fun v1=>Y9))) (fun v1=>Vr deck v1)) (fun r2=>Xm))) (fun r2 _ h=>g2x (Qg1 _ _ _ h))) (fun _=>rfl))
def Wo (deck:Dk) (some_:(List Str)):Option (Str × Dk):=((((W2 deck (W0 some_))).bind fun r1=>((atI some_ r1.1)).map fun v3=>(r1,v3))).bind fun b2=>(some (b2.2,b2.1.2))
theorem Q30 (deck:Dk) (some_:(List Str)):∀ v,Wo deck some_ = some v → V1 [sDk deck,.fz ((eLi Q3) some_)] = some ((Q3 v.1),[sDk v.2,.fz ((eLi Q3) some_)]):=by
 exact Zt (Vb (V6 (e:=fun _=>Q3) (Yz (Xi 1 rfl) (Y1 (Y7 (Vn 0 (Y3 (Q0q (Xl (Xi 1 rfl) Xm) (Kr _)) Y9)) (Vr _ _ )) (fun r1=>Xm))) (fun r1 _ h=>g2x (K4 _ _ _ h))) (fun _=>rfl))
def Q40 (deck:Dk):Option ((Int × Int) × Dk):=((W2 deck 8)).bind fun r1=>((((W2 r1.2 5)).bind fun r3=>((W2 r3.2 7)).map fun r4=>(r3,r4))).bind fun b5=>((atI ([((3 + b5.1.1),(4 + b5.2.1)),(8,12),(2,3)]) ((boI (decide (r1.1 = 5))) + (2 * (boI (decide (r1.1 = 3))))))).bind fun v6=>(some (v6,b5.2.2))
theorem Qej (deck:Dk):∀ v,Q40 deck = some v → Q0M [sDk deck] = some (((eP2 Q0 Q0) v.1),[sDk v.2]):=by
 exact Zt (Vk (Y7 (Vn 0 (Y3 (Xh:VP _ _ (.int 8)) Y9)) (Vr _ _ )) (fun r1=>(Q84 (a:=fun b5=>(Q0 (3 + b5.1.1))) (b:=fun b5=>(Q0 (4 + b5.2.1))) (Wf (Wz (Yz (Xh:VP _ _ (.int 3)) (Y1 (Y7 (Vn 0 (Y3 (Xh:VP _ _ (.int 5)) Y9)) (Vr _ _ )) (fun r3=>Xm))) (fun r3=>g2x (Yc _ _))) (fun r3=>(Y1 (Wz (Yz (Xh:VP _ _ (.int 4)) (Y1 (Y7 (Vn 0 (Y3 (Xh:VP _ _ (.int 7)) Y9)) (Vr _ _ )) (fun r4=>Xm))) (fun r4=>g2x (Yc _ _))) (fun r4=>Xm)))) (fun _=>rfl) (fun b5=>(Vb (Yw (q:=(atI ([((3 + b5.1.1),(4 + b5.2.1)),(8,12),(2,3)]) ((boI (decide (r1.1 = 5))) + (2 * (boI (decide (r1.1 = 3))))))) (e:=(eP2 Q0 Q0)) ((W3 (Xl ((Q02 (Xl (Xi 2 rfl) (Xl (Xi 3 rfl) Xm))):VP _ _ ((eP2 Q0 Q0) ((3 + b5.1.1),(4 + b5.2.1)))) (Xl ((Q02 (Xl (Xh:VP _ _ (.int 8)) (Xl (Xh:VP _ _ (.int 12)) Xm))):VP _ _ ((eP2 Q0 Q0) (8,12))) (Xl ((Q02 (Xl (Xh:VP _ _ (.int 2)) (Xl (Xh:VP _ _ (.int 3)) Xm))):VP _ _ ((eP2 Q0 Q0) (2,3))) Xm)))):VP _ _ ((eLi (eP2 Q0 Q0)) ([((3 + b5.1.1),(4 + b5.2.1)),(8,12),(2,3)]))) (Yo (Q0q (Xl (Yo (Xi 1 rfl) (Xh:VP _ _ (.int 5)) (Q1I gI _ _)) Xm) (Qd7 _)) (Yo (Xh:VP _ _ (.int 2)) (Q0q (Xl (Yo (Xi 1 rfl) (Xh:VP _ _ (.int 3)) (Q1I gI _ _)) Xm) (Qd7 _)) (Vq _ _ rfl)) (Yc _ _)) (fun _ h=>K4 _ _ _ h)) (fun _=>rfl))))))
def Q05 (kind:Int) (Vv:(List D)):Option Int:=(Q23 kind (W0 Vv)).bind fun v1=>(some ((v1 + 3) / 4))
theorem Q41 (kind:Int) (Vv:(List D)):∀ v,Q05 kind Vv = some v → W9 [.fz (Q0 kind),.fz ((eLi eD) Vv)] = some ((Q0 v),[.fz (Q0 kind),.fz ((eLi eD) Vv)]):=by
 exact Zt (Vb (Wz (Y1 (Wz (Y1 (Yw (q:=Q23 kind (W0 Vv)) (e:=Q0) (Xi 0 rfl) (Q0q (Xl (Xi 1 rfl) Xm) (Kr _)) (fun _ h=>Q74 _ _ _ h)) (fun v1=>(Xl (Xh:VP _ _ (.int 3)) Xm))) (fun v1=>g2x (Yc _ _))) (fun v1=>(Xl (Xh:VP _ _ (.int 4)) Xm))) (fun v1=>g2x (Q42 _ _ (by decide) (by decide)))) (fun _=>rfl))
def Q2m (model:(List (Int × (Int × (List D))))) (blocks:Int):Option Int:=((K5 (model.map (·.1)) (Q1F (fun x1=>(some (!decide (x1 = 2)))) (fun x1=>(((((((Z0 model x1)).bind fun v2=>((Z0 model x1)).map fun v3=>(v2,v3))).bind fun b4=>(Q05 b4.1.1 b4.2.2).map fun v6=>(b4,v6))).map fun r5=>r5.2)) (model.map (·.1))))).bind fun l7=>(some ((blocks - 3) - l7.sum))
theorem Qbo (model:(List (Int × (Int × (List D))))) (blocks:Int):∀ v,Q2m model blocks = some v → Zg [.fz ((eDi Q0 (eP2 Q0 (eLi eD))) model),.fz (Q0 blocks)] = some ((Q0 v),[.fz ((eDi Q0 (eP2 Q0 (eLi eD))) model),.fz (Q0 blocks)]):=by
 exact Zt (Vb (Wz (Yz (Yo (Xi 1 rfl) (Xh:VP _ _ (.int 3)) (Vz _ _)) (Y1 (Q9L (Y1 (Q5X (e:=Q0) (e':=Q0) (Q2V (Xi 0 rfl) (QhN _)) (fun x1=>(Vh 2)) (fun x1=>(Qcu (v:=(!decide (x1 = 2))) (Kt (Yo (Xi 2 rfl) (Xh:VP _ _ (.int 2)) (Q4t gI _ _))) rfl)) (fun x1=>(Q1r (K7 (Qbp (Wz (Y1 (Yw (q:=(Z0 model x1)) (e:=(eP2 Q0 (eLi eD))) (Xi 0 rfl) (Xi 2 rfl) (fun _ h=>Q6i kgI _ _ _ h)) (fun v2=>(Xl (Xh:VP _ _ (.int 0)) Xm))) (fun v2=>g2x (Qhn _ _))) (fun v2=>(Q2t (Wz (Y1 (Yw (q:=(Z0 model x1)) (e:=(eP2 Q0 (eLi eD))) (Xi 0 rfl) (Xi 2 rfl) (fun _ h=>Q6i kgI _ _ _ h)) (fun v3=>(Xl (Xh:VP _ _ (.int 1)) Xm))) (fun v3=>g2x (QeH _ _ _))) (fun v3=>Y9)))) (fun b4=>Q41 b4.1.1 b4.2.2)) (fun _=>rfl)))) (fun l7=>Xm)) (fun l7=>QhW _)) (fun l7=>Xm))) (fun l7=>g2x (Vz _ _))) (fun _=>rfl))
def Q1l (model:(List (Int × (Int × (List D))))) (blocks:Int) (folder:Int) (name:Int) (head:Int):Option (Bool × (List (Int × (Int × (List D))))):=((Z0 model folder)).bind fun v1=>(((Wg v1.2 ([((eP2 Q0 Q0) (name,head))])).bind fun v2=>((Q7S v2)).map fun v4=>(v2,v4))).bind fun b3=>((((((Q05 2 b3.2)).bind fun r6=>((Q05 2 v1.2)).map fun r7=>(r6,r7))).bind fun b8=>((Q2m model blocks)).map fun r9=>(b8,r9))).bind fun b10=>Q2f (decide ((b10.1.1 - b10.1.2) ≤ b10.2)) fun room_11=>((if (decide ((W0 v1.2) < 6)) then (if room_11 then (((((K5 v1.2 (Q1F (fun x12=>(((((W1 x12 (Q0 0))).bind fun v13=>((eqD v13 (Q0 name))).map fun v15=>(v13,v15))).map fun b14=>b14.2)) (fun x12=>(some x12)) v1.2))).bind fun l16=>((eqD ((eLi eD) l16) ((eLi eD) ([])))).map fun v18=>(l16,v18))).map fun b17=>b17.2) else some false) else some false)).bind fun b22=>if b22 then (Q5E model folder (2,b3.2)).bind fun u23=>(some (true,u23)) else (some (false,model))
theorem Q8M (model:(List (Int × (Int × (List D))))) (blocks:Int) (folder:Int) (name:Int) (head:Int):∀ v,Q1l model blocks folder name head = some v → Zr [.ow ((eDi Q0 (eP2 Q0 (eLi eD))) model),.fz (Q0 blocks),.fz (Q0 folder),.fz (Q0 name),.fz (Q0 head)] = some ((Qj v.1),[.ow ((eDi Q0 (eP2 Q0 (eLi eD))) v.2),.fz (Q0 blocks),.fz (Q0 folder),.fz (Q0 name),.fz (Q0 head)]):=by
 exact Zt (Xz (δ':=[.ow (Vg model),.fz (Q0 blocks),.fz (Q0 folder),.fz (Q0 name),.fz (Q0 head),.no,.no,.no,.no,.no]) (Q6I (Qdu 0 (Yw (q:=(Z0 model folder)) (e:=(eP2 Q0 (eLi eD))) (Q9H 0 rfl:VP _ _ (Vg model)) (Xi 2 rfl) (fun _ h=>Q6i kgI _ _ _ h)) rfl (fun _=>rfl)) (fun v1=>(Q2y (Vi (Vh 5) (Vi (Vh 6) Q0i)))) (fun v1=>(Xz (δ':=[.ow (Vg model),.fz (Q0 blocks),.fz (Q0 folder),.fz (Q0 name),.fz (Q0 head),.fz (Q0 v1.1),.fz ((eLi eD) v1.2),.no,.no,.no]) (Vk (Q8u (e:=fun _=>(eLi eD)) (Y1 (Yw (q:=Wg v1.2 ([((eP2 Q0 Q0) (name,head))])) (e:=(eLi eD)) (Xi 6 rfl) ((W3 (Xl ((Q02 (Xl (Xi 3 rfl) (Xl (Xi 4 rfl) Xm))):VP _ _ ((eP2 Q0 Q0) (name,head))) Xm)):VP _ _ ((eLi eD) ([((eP2 Q0 Q0) (name,head))]))) (fun _ h=>W4 _ _ _ h)) (fun v2=>Xm)) (fun v2 _ h=>QcY _ _ h)) (fun b3=>(Xz (δ':=[.ow (Vg model),.fz (Q0 blocks),.fz (Q0 folder),.fz (Q0 name),.fz (Q0 head),.fz (Q0 v1.1),.fz ((eLi eD) v1.2),.fz ((eLi eD) b3.2),.no,.no]) (Q2E (e:=Qj) (Wz (Wf (Wz (Wf (Y7 (Y3 (Xh:VP _ _ (.int 2)) (Y3 (Xi 7 rfl) Y9)) (Q41 _ _ )) (fun r6=>(Y1 (Y7 (Y3 (Xh:VP _ _ (.int 2)) (Y3 (Xi 6 rfl) Y9)) (Q41 _ _ )) (fun r7=>Xm)))) (fun b8=>g2x (Vz _ _))) (fun b8=>(Y1 (Qdu 0 (Y7 (Y3 (Q9H 0 rfl:VP _ _ (Vg model)) (Y3 (Xi 1 rfl) Y9)) (Qbo _ _ )) rfl (fun _=>rfl)) (fun r9=>Xm)))) (fun b10=>g2x (Qcf _ _))) (fun _=>rfl) (fun b10 room_11=>(Xz (δ':=[.ow (Vg model),.fz (Q0 blocks),.fz (Q0 folder),.fz (Q0 name),.fz (Q0 head),.fz (Q0 v1.1),.fz ((eLi eD) v1.2),.fz ((eLi eD) b3.2),.fz (Qj room_11),.no]) (Q25 (Q91 (v:=false) (Kt (Yo (Q0q (Xl (Xi 6 rfl) Xm) (Kr _)) (Xh:VP _ _ (.int 6)) (Q7r _ _))) (Q7J (r':=fun (c21:Bool)=>(c21,[.ow (Vg model),.fz (Q0 blocks),.fz (Q0 folder),.fz (Q0 name),.fz (Q0 head),.fz (Q0 v1.1),.fz ((eLi eD) v1.2),.fz ((eLi eD) b3.2),.fz (Qj room_11),.no])) (Q91 (v:=false) (Kt (Xi 8 rfl)) (Q0w (r':=fun (c19:Bool)=>(c19,[.ow (Vg model),.fz (Q0 blocks),.fz (Q0 folder),.fz (Q0 name),.fz (Q0 head),.fz (Q0 v1.1),.fz ((eLi eD) v1.2),.fz ((eLi eD) b3.2),.fz (Qj room_11),.no])) (Q0b (V6 (e:=fun _=>Qj) (Y1 (Q5X (e:=eD) (e':=eD) (Q2V (Xi 6 rfl) (Q2u _)) (fun x12=>(Vh 9)) (fun x12=>(Q0w (Q0b (V6 (e:=fun _=>Qj) (Y1 (Yw (q:=(W1 x12 (Q0 0))) (e:=eD) (Xi 9 rfl) (Xh:VP _ _ (.int 0)) (fun _ h=>h)) (fun v13=>(Xl (Xi 3 rfl) Xm))) (fun v13 _ h=>g2x (Qar _ _ h))) (fun _=>rfl)) (fun _=>rfl))) (fun x12=>(Q6z (v:=x12) (Xi 9 rfl) rfl))) (fun l16=>(Xl ((W3 Xm):VP _ _ ((eLi eD) ([]))) Xm))) (fun l16 _ h=>g2x (Qar _ _ h))) (fun _=>rfl)) (fun _=>rfl)) rfl) (fun _=>rfl)) rfl) (fun _=>rfl) (fun b22=>(Vt (Xz (δ':=[.ow (Vg model),.fz (Q0 blocks),.fz (Q0 folder),.fz (Q0 name),.fz (Q0 head),.fz (Q0 v1.1),.fz ((eLi eD) v1.2),.fz ((eLi eD) b3.2),.fz (Qj room_11),.no]) (Q4I (q:=(Q5E model folder (2,b3.2))) (e:=Vg) ((Q02 (Xl (Xh:VP _ _ (.int 2)) (Xl (Xi 7 rfl) Xm))):VP _ _ ((eP2 Q0 (eLi eD)) (2,b3.2))) (Xi 2 rfl) rfl (fun _ h=>Q9m (e':=(eP2 Q0 (eLi eD))) kgI _ _ _ _ h) (fun u23=>(Vt (Xz (δ':=[.ow (Vg u23),.fz (Q0 blocks),.fz (Q0 folder),.fz (Q0 name),.fz (Q0 head),.fz (Q0 v1.1),.fz ((eLi eD) v1.2),.fz ((eLi eD) b3.2),.fz (Qj room_11),.no]) (Z1 (Xh:VP _ _ (.bool true)) rfl)))))))) (fun b22=>(Wb (Xz (δ':=[.ow (Vg model),.fz (Q0 blocks),.fz (Q0 folder),.fz (Q0 name),.fz (Q0 head),.fz (Q0 v1.1),.fz ((eLi eD) v1.2),.fz ((eLi eD) b3.2),.fz (Qj room_11),.no]) (Z1 (Xh:VP _ _ (.bool false)) rfl)))))))))))))))
def Q3W (deck:Dk) (heads:Int) (blocks:Int):Option ((List (Int × (Int × (List D)))) × Dk):=Q2f ([(1,(2,[])),(2,(2,[]))]) fun model_1=>((rgQ 3 (heads + 1))).bind fun v3=>(Q4E (fun s5=>(some (!decide (s5.2.2.2 = ([]))))) (fun s5=>((((W2 s5.1 (W0 s5.2.2.2))).bind fun r6=>(Q5Q s5.2.2.2 r6.1).map fun v8=>(r6,v8))).bind fun p7=>((W2 p7.1.2 6)).bind fun r10=>((Q2v r10.2 ([1,1,2,3]))).bind fun r12=>((Q2v r12.2 s5.2.2.1)).bind fun r14=>if (decide (r10.1 = 0)) then (some (r14.2,s5.2.1,s5.2.2.1,p7.2.2)) else ((((((W2 r14.2 13)).bind fun r16=>(Q8g r16.1).map fun v18=>(r16,v18))).bind fun b17=>(K5 b17.2 (Q8m (fun x22 s21=>(((W2 s21 100)).map fun r23=>(r23.1,r23.2))) b17.2 b17.1.2)).map fun v25=>(b17,v25))).bind fun l24=>((if (decide (r10.1 < 3)) then (some (2,[])) else (((Q2m s5.2.1 blocks)).map fun r27=>(1,(List.map Q0 (Yn l24.2.1 none (some (4 * r27)))))))).bind fun b30=>(Q5E s5.2.1 p7.2.1 b30).bind fun u31=>((W2 l24.2.2 99)).bind fun r32=>Q2f (1 + r32.1) fun name_33=>((if (!decide (r10.1 = 5)) then (((Q1l u31 blocks r14.1 name_33 p7.2.1)).map fun r34=>(r34.1,r34.2)) else some (false,u31))).bind fun b36=>(if (!b36.1) then ((((((Z0 b36.2 2)).bind fun v39=>(Wg v39.2 ([((eP2 Q0 Q0) (p7.2.1,p7.2.1))])).map fun v41=>(v39,v41))).bind fun b40=>((Q7S b40.2)).map fun v43=>(b40,v43))).bind fun b42=>(Q5E b36.2 2 (2,b42.2)).bind fun u44=>(some u44) else (some b36.2)).bind fun s38=>(((Q23 (r12.1 - 1) (boI (decide (2 < r10.1)))).bind fun v45=>(Q8g v45).map fun v47=>(v45,v47))).bind fun b46=>(Q4u (fun x49 s48=>((((((Q2v s48.1 s5.2.2.1)).bind fun r50=>((W2 r50.2 99)).map fun r51=>(r50,r51))).bind fun b52=>(Q1l s48.2 blocks b52.1.1 (1 + b52.2.1) p7.2.1).map fun v54=>(b52,v54))).bind fun r53=>(some (r53.1.2.2,r53.2.2))) b46.2 (r32.2,s38)).bind fun s48=>(if (decide (r10.1 < 3)) then ((QfE s5.2.2.1 p7.2.1)).bind fun p56=>(some p56) else (some s5.2.2.1)).bind fun s55=>(some (s48.1,s48.2,s55,p7.2.2))) 100 (deck,model_1,[1],v3)).bind fun s5=>(some (s5.2.1,s5.1))
theorem Qe2 (deck:Dk) (heads:Int) (blocks:Int):∀ v,Q3W deck heads blocks = some v → Q0K [sDk deck,.fz (Q0 heads),.fz (Q0 blocks)] = some (((eDi Q0 (eP2 Q0 (eLi eD))) v.1),[sDk v.2,.fz (Q0 heads),.fz (Q0 blocks)]):=by
 exact Zt (Xz (δ':=[sDk deck,.fz (Q0 heads),.fz (Q0 blocks),.no,.no,.no,.no,.no,.no,.no,.no,.no,.no,.no]) (QcU (e:=Vg) (v:=[(1,(2,[])),(2,(2,[]))]) (Q9M (Q6V (Xh:VP _ _ (.int 1)) ((Q02 (Xl (Xh:VP _ _ (.int 2)) (Xl ((W3 Xm):VP _ _ ((eLi eD) ([]))) Xm))):VP _ _ ((eP2 Q0 (eLi eD)) (2,[]))) (Q6V (Xh:VP _ _ (.int 2)) ((Q02 (Xl (Xh:VP _ _ (.int 2)) (Xl ((W3 Xm):VP _ _ ((eLi eD) ([]))) Xm))):VP _ _ ((eP2 Q0 (eLi eD)) (2,[]))) Qcj)) rfl:VP _ _ (Vg [(1,(2,[])),(2,(2,[]))])) (fun model_1=>(Xz (δ':=[sDk deck,.fz (Q0 heads),.fz (Q0 blocks),.ow (Vg model_1),.no,.no,.no,.no,.no,.no,.no,.no,.no,.no]) (Qcc ((W3 (Xl (Xh:VP _ _ (.int 1)) Xm)):VP _ _ (Y2 ([1]))) (Xz (δ':=[sDk deck,.fz (Q0 heads),.fz (Q0 blocks),.ow (Vg model_1),.ow (Y2 ([1])),.no,.no,.no,.no,.no,.no,.no,.no,.no]) (Q1R (Yw (q:=(rgQ 3 (heads + 1))) (e:=Y2) (Xh:VP _ _ (.int 3)) (Yo (Xi 1 rfl) (Xh:VP _ _ (.int 1)) (Yc _ _)) (fun _ h=>Qki _ _ _ h)) (fun v3=>(Q1C (Xz (δ':=[sDk deck,.fz (Q0 heads),.fz (Q0 blocks),.ow (Vg model_1),.ow (Y2 ([1])),.ow (Y2 v3),.no,.no,.no,.no,.no,.no,.no,.no]) (QfC (st:=fun s5=>[sDk s5.1,.fz (Q0 heads),.fz (Q0 blocks),.ow (Vg s5.2.1),.ow (Y2 s5.2.2.1),.ow (Y2 s5.2.2.2),.no,.no,.no,.no,.no,.no,.no,.no]) (s0:=(deck,model_1,[1],v3)) (fun s5=>(Qcu (v:=(!decide (s5.2.2.2 = ([])))) (Kt (Yo (Z2 5 rfl:VP _ _ (Y2 s5.2.2.2)) ((W3 Xm):VP _ _ (Y2 ([]))) (Q4t (gLi gI) _ _))) rfl)) (fun s5=>(Xz (δ':=[sDk s5.1,.fz (Q0 heads),.fz (Q0 blocks),.ow (Vg s5.2.1),.ow (Y2 s5.2.2.1),.ow (Y2 s5.2.2.2),.no,.no,.no,.no,.no,.no,.no,.no]) (Vk (QaA 5 (e:=Q0) (Y7 (Vn 0 (Y3 (Q0q (Xl (Z2 5 rfl:VP _ _ (Y2 s5.2.2.2)) Xm) (Kr _)) Y9)) (Vr _ _ )) (fun _=>rfl)) (fun p7=>(Xz (δ':=[sDk p7.1.2,.fz (Q0 heads),.fz (Q0 blocks),.ow (Vg s5.2.1),.ow (Y2 s5.2.2.1),.ow (Y2 p7.2.2),.fz (Q0 p7.2.1),.no,.no,.no,.no,.no,.no,.no]) (Vk (Y7 (Vn 0 (Y3 (Xh:VP _ _ (.int 6)) Y9)) (Vr _ _ )) (fun r10=>(Xz (δ':=[sDk r10.2,.fz (Q0 heads),.fz (Q0 blocks),.ow (Vg s5.2.1),.ow (Y2 s5.2.2.1),.ow (Y2 p7.2.2),.fz (Q0 p7.2.1),.fz (Q0 r10.1),.no,.no,.no,.no,.no,.no]) (Vk (Y7 (Vn 0 (Y3 ((W3 (Xl (Xh:VP _ _ (.int 1)) (Xl (Xh:VP _ _ (.int 1)) (Xl (Xh:VP _ _ (.int 2)) (Xl (Xh:VP _ _ (.int 3)) Xm))))):VP _ _ (Y2 ([1,1,2,3]))) Y9)) (Q7b _ _ )) (fun r12=>(Xz (δ':=[sDk r12.2,.fz (Q0 heads),.fz (Q0 blocks),.ow (Vg s5.2.1),.ow (Y2 s5.2.2.1),.ow (Y2 p7.2.2),.fz (Q0 p7.2.1),.fz (Q0 r10.1),.fz (Q0 r12.1),.no,.no,.no,.no,.no]) (Vk (Y7 (Vn 0 (Y3 (Z2 4 rfl:VP _ _ (Y2 s5.2.2.1)) Y9)) (Q7b _ _ )) (fun r14=>(Xz (δ':=[sDk r14.2,.fz (Q0 heads),.fz (Q0 blocks),.ow (Vg s5.2.1),.ow (Y2 s5.2.2.1),.ow (Y2 p7.2.2),.fz (Q0 p7.2.1),.fz (Q0 r10.1),.fz (Q0 r12.1),.fz (Q0 r14.1),.no,.no,.no,.no]) (Q4o (Kt (Yo (Xi 7 rfl) (Xh:VP _ _ (.int 0)) (Q1I gI _ _))) (Vt (Qh2 (v:=(r14.2,s5.2.1,s5.2.2.1,p7.2.2)) rfl)) (Wb (Xz (δ':=[sDk r14.2,.fz (Q0 heads),.fz (Q0 blocks),.ow (Vg s5.2.1),.ow (Y2 s5.2.2.1),.ow (Y2 p7.2.2),.fz (Q0 p7.2.1),.fz (Q0 r10.1),.fz (Q0 r12.1),.fz (Q0 r14.1),.no,.no,.no,.no]) (Q1R (Q4B (Q5I  (Y1 (Y7 (Vn 0 (Y3 (Xh:VP _ _ (.int 13)) Y9)) (Vr _ _ )) (fun r16=>Xm)) (fun _=>rfl)) (fun b17=>(Q6T (e:=Q0) (e':=Q0) (st:=fun s21=>[sDk s21,.fz (Q0 heads),.fz (Q0 blocks),.ow (Vg s5.2.1),.ow (Y2 s5.2.2.1),.ow (Y2 p7.2.2),.fz (Q0 p7.2.1),.fz (Q0 r10.1),.fz (Q0 r12.1),.fz (Q0 r14.1),.no,.no,.no,.no]) (s0:=b17.1.2) (δb:=fun x22 s21=>[sDk s21,.fz (Q0 heads),.fz (Q0 blocks),.ow (Vg s5.2.1),.ow (Y2 s5.2.2.1),.ow (Y2 p7.2.2),.fz (Q0 p7.2.1),.fz (Q0 r10.1),.fz (Q0 r12.1),.fz (Q0 r14.1),.no,.no,.no,.fz (Q0 x22)]) Q1A (fun x22 s21=>(Vh 13)) (fun x22 s21=>(Q1r (Y7 (Vn 0 (Y3 (Xh:VP _ _ (.int 100)) Y9)) (Vr _ _ )) (fun _=>rfl)))))) (fun l24=>(Xz (δ':=[sDk l24.2.2,.fz (Q0 heads),.fz (Q0 blocks),.ow (Vg s5.2.1),.ow (Y2 s5.2.2.1),.ow (Y2 p7.2.2),.fz (Q0 p7.2.1),.fz (Q0 r10.1),.fz (Q0 r12.1),.fz (Q0 r14.1),.ow (Y2 l24.2.1),.no,.no,.no]) (Q6L (e:=fun _=>Vg) (Qft (Kt (Yo (Xi 7 rfl) (Xh:VP _ _ (.int 3)) (Q7r _ _))) (Q6z (v:=(2,[])) (r':=fun (c28:(Int × (List D)))=>(((eP2 Q0 (eLi eD)) c28),[sDk l24.2.2,.fz (Q0 heads),.fz (Q0 blocks),.ow (Vg s5.2.1),.ow (Y2 s5.2.2.1),.ow (Y2 p7.2.2),.fz (Q0 p7.2.1),.fz (Q0 r10.1),.fz (Q0 r12.1),.fz (Q0 r14.1),.ow (Y2 l24.2.1),.no,.no,.no])) ((Q02 (Xl (Xh:VP _ _ (.int 2)) (Xl ((W3 Xm):VP _ _ ((eLi eD) ([]))) Xm))):VP _ _ ((eP2 Q0 (eLi eD)) (2,[]))) rfl) (Q1r (r':=fun (c29:(Int × (List D)))=>(((eP2 Q0 (eLi eD)) c29),[sDk l24.2.2,.fz (Q0 heads),.fz (Q0 blocks),.ow (Vg s5.2.1),.ow (Y2 s5.2.2.1),.ow (Y2 p7.2.2),.fz (Q0 p7.2.1),.fz (Q0 r10.1),.fz (Q0 r12.1),.fz (Q0 r14.1),.ow (Y2 l24.2.1),.no,.no,.no])) (Q04 (z:=fun r27=>((eP2 Q0 (eLi eD)) (1,(List.map Q0 (Yn l24.2.1 none (some (4 * r27))))))) (Q04 (z:=fun r27=>((eP2 Q0 Y2) (1,(Yn l24.2.1 none (some (4 * r27)))))) (Q4G (Yz (Xh:VP _ _ (.int 1)) (Y1 (Qkh (z:=fun r27=>(Y2 (Yn l24.2.1 none (some (4 * r27))))) (Z2 10 rfl:VP _ _ (Y2 l24.2.1)) Vc (QgT (i:=fun r27=>(4 * r27)) (Wz (Yz (Xh:VP _ _ (.int 4)) (Y1 (Qdu 3 (Y7 (Y3 (Q9H 3 rfl:VP _ _ (Vg s5.2.1)) (Y3 (Xi 2 rfl) Y9)) (Qbo _ _ )) rfl (fun _=>rfl)) (fun r27=>Xm))) (fun r27=>g2x (Vq _ _ rfl))) (fun _=>rfl)) (fun _=>K3 _ _ _)) (fun r27=>Xm)))) (fun _=>rfl)) (fun r27=>(coP2 (fun _=>rfl) (coL (e:=Q0) (e':=eD) (f:=Q0) (fun _=>rfl))) (1,(Yn l24.2.1 none (some (4 * r27)))))) (fun _=>rfl))) (fun b30=>(Xi 6 rfl)) (fun _=>rfl) (fun _ _ h=>Q9m (e':=(eP2 Q0 (eLi eD))) kgI _ _ _ _ h) (fun b30 u31=>(Xz (δ':=[sDk l24.2.2,.fz (Q0 heads),.fz (Q0 blocks),.ow (Vg u31),.ow (Y2 s5.2.2.1),.ow (Y2 p7.2.2),.fz (Q0 p7.2.1),.fz (Q0 r10.1),.fz (Q0 r12.1),.fz (Q0 r14.1),.ow (Y2 l24.2.1),.no,.no,.no]) (Q2E (e:=Q0) (Wz (Yz (Xh:VP _ _ (.int 1)) (Y1 (Y7 (Vn 0 (Y3 (Xh:VP _ _ (.int 99)) Y9)) (Vr _ _ )) (fun r32=>Xm))) (fun r32=>g2x (Yc _ _))) (fun _=>rfl) (fun r32 name_33=>(Xz (δ':=[sDk r32.2,.fz (Q0 heads),.fz (Q0 blocks),.ow (Vg u31),.ow (Y2 s5.2.2.1),.ow (Y2 p7.2.2),.fz (Q0 p7.2.1),.fz (Q0 r10.1),.fz (Q0 r12.1),.fz (Q0 r14.1),.ow (Y2 l24.2.1),.fz (Q0 name_33),.no,.no]) (Vk (Qhx (v:=(false,u31)) (Yo (Xi 7 rfl) (Xh:VP _ _ (.int 5)) (Q4t gI _ _)) (Q1r (r':=fun (c35:Bool × (List (Int × (Int × (List D)))))=>((Qj c35.1),[sDk r32.2,.fz (Q0 heads),.fz (Q0 blocks),.ow (Vg c35.2),.ow (Y2 s5.2.2.1),.ow (Y2 p7.2.2),.fz (Q0 p7.2.1),.fz (Q0 r10.1),.fz (Q0 r12.1),.fz (Q0 r14.1),.ow (Y2 l24.2.1),.fz (Q0 name_33),.no,.no])) (Y7 (Vn 3 (Y3 (Xi 2 rfl) (Y3 (Xi 9 rfl) (Y3 (Xi 11 rfl) (Y3 (Xi 6 rfl) Y9))))) (Q8M _ _ _ _ _ )) (fun _=>rfl)) rfl) (fun b36=>(Xz (δ':=[sDk r32.2,.fz (Q0 heads),.fz (Q0 blocks),.ow (Vg b36.2),.ow (Y2 s5.2.2.1),.ow (Y2 p7.2.2),.fz (Q0 p7.2.1),.fz (Q0 r10.1),.fz (Q0 r12.1),.fz (Q0 r14.1),.ow (Y2 l24.2.1),.fz (Q0 name_33),.fz (Qj b36.1),.no]) (Q1g (st:=fun s38=>[sDk r32.2,.fz (Q0 heads),.fz (Q0 blocks),.ow (Vg s38),.ow (Y2 s5.2.2.1),.ow (Y2 p7.2.2),.fz (Q0 p7.2.1),.fz (Q0 r10.1),.fz (Q0 r12.1),.fz (Q0 r14.1),.ow (Y2 l24.2.1),.fz (Q0 name_33),.fz (Qj b36.1),.no]) (Q3G (Q9l (Kt (Xi 12 rfl))) (Xz (δ':=[sDk r32.2,.fz (Q0 heads),.fz (Q0 blocks),.ow (Vg b36.2),.ow (Y2 s5.2.2.1),.ow (Y2 p7.2.2),.fz (Q0 p7.2.1),.fz (Q0 r10.1),.fz (Q0 r12.1),.fz (Q0 r14.1),.ow (Y2 l24.2.1),.fz (Q0 name_33),.fz (Qj b36.1),.no]) (Q6L (e:=fun _=>Vg) (Q04 (z:=fun b42=>((eP2 Q0 (eLi eD)) (2,b42.2))) (Q4G (Yz (Xh:VP _ _ (.int 2)) (Y1 (Q8u (e:=fun _=>(eLi eD)) (Y1 (V6 (e:=fun _=>(eLi eD)) (Y1 (Wz (Y1 (Qdu 3 (Yw (q:=(Z0 b36.2 2)) (e:=(eP2 Q0 (eLi eD))) (Q9H 3 rfl:VP _ _ (Vg b36.2)) (Xh:VP _ _ (.int 2)) (fun _ h=>Q6i kgI _ _ _ h)) rfl (fun _=>rfl)) (fun v39=>(Xl (Xh:VP _ _ (.int 1)) Xm))) (fun v39=>g2x (QeH _ _ _))) (fun v39=>(Xl ((W3 (Xl ((Q02 (Xl (Xi 6 rfl) (Xl (Xi 6 rfl) Xm))):VP _ _ ((eP2 Q0 Q0) (p7.2.1,p7.2.1))) Xm)):VP _ _ ((eLi eD) ([((eP2 Q0 Q0) (p7.2.1,p7.2.1))]))) Xm))) (fun v39 _ h=>g2x (W4 _ _ _ h))) (fun b40=>Xm)) (fun b40 _ h=>QcY _ _ h)) (fun b42=>Xm)))) (fun _=>rfl)) (fun b42=>(Xh:VP _ _ (.int 2))) (fun _=>rfl) (fun _ _ h=>Q9m (e':=(eP2 Q0 (eLi eD))) kgI _ _ _ _ h) (fun b42 u44=>(Zm (v:=u44) rfl)))) (Zm (v:=b36.2) rfl)) (fun s38=>(Q1C (Xz (δ':=[sDk r32.2,.fz (Q0 heads),.fz (Q0 blocks),.ow (Vg s38),.ow (Y2 s5.2.2.1),.ow (Y2 p7.2.2),.fz (Q0 p7.2.1),.fz (Q0 r10.1),.fz (Q0 r12.1),.fz (Q0 r14.1),.ow (Y2 l24.2.1),.fz (Q0 name_33),.fz (Qj b36.1),.no]) (Q3U (Q5I  (Y1 (Yw (q:=Q23 (r12.1 - 1) (boI (decide (2 < r10.1)))) (e:=Q0) (Yo (Xi 8 rfl) (Xh:VP _ _ (.int 1)) (Vz _ _)) (Q0q (Xl (Yo (Xi 7 rfl) (Xh:VP _ _ (.int 2)) (Qgy _ _)) Xm) (Qd7 _)) (fun _ h=>Q74 _ _ _ h)) (fun v45=>Xm)) (fun _=>rfl)) (fun b46=>(Q3g (e:=Q0) (st:=fun s48=>[sDk s48.1,.fz (Q0 heads),.fz (Q0 blocks),.ow (Vg s48.2),.ow (Y2 s5.2.2.1),.ow (Y2 p7.2.2),.fz (Q0 p7.2.1),.fz (Q0 r10.1),.fz (Q0 r12.1),.fz (Q0 r14.1),.ow (Y2 l24.2.1),.fz (Q0 name_33),.fz (Qj b36.1),.no]) (s0:=(r32.2,s38)) Q1A (fun x49 s48=>(Vh 13)) (fun x49 s48=>(Xz (δ':=[sDk s48.1,.fz (Q0 heads),.fz (Q0 blocks),.ow (Vg s48.2),.ow (Y2 s5.2.2.1),.ow (Y2 p7.2.2),.fz (Q0 p7.2.1),.fz (Q0 r10.1),.fz (Q0 r12.1),.fz (Q0 r14.1),.ow (Y2 l24.2.1),.fz (Q0 name_33),.fz (Qj b36.1),.fz (Q0 x49)]) (Qc8 (K7 (Q4C 3 (Qd8 (Xi 2 rfl) (Qbp (Y7 (Vn 0 (Y3 (Z2 4 rfl:VP _ _ (Y2 s5.2.2.1)) Y9)) (Q7b _ _ )) (fun r50=>(Q2t (Wz (Yz (Xh:VP _ _ (.int 1)) (Y1 (Y7 (Vn 0 (Y3 (Xh:VP _ _ (.int 99)) Y9)) (Vr _ _ )) (fun r51=>Xm))) (fun r51=>g2x (Yc _ _))) (fun r51=>(Y3 (Xi 6 rfl) Y9))))))) (fun b52=>Q8M s48.2 blocks b52.1.1 (1 + b52.2.1) p7.2.1)) (fun r53=>(Z4 (v:=(r53.1.2.2,r53.2.2)) rfl)))))  (fun s48=>(Xz (δ':=[sDk s48.1,.fz (Q0 heads),.fz (Q0 blocks),.ow (Vg s48.2),.ow (Y2 s5.2.2.1),.ow (Y2 p7.2.2),.fz (Q0 p7.2.1),.fz (Q0 r10.1),.fz (Q0 r12.1),.fz (Q0 r14.1),.ow (Y2 l24.2.1),.fz (Q0 name_33),.fz (Qj b36.1),.no]) (Q1g (st:=fun s55=>[sDk s48.1,.fz (Q0 heads),.fz (Q0 blocks),.ow (Vg s48.2),.ow (Y2 s55),.ow (Y2 p7.2.2),.fz (Q0 p7.2.1),.fz (Q0 r10.1),.fz (Q0 r12.1),.fz (Q0 r14.1),.ow (Y2 l24.2.1),.fz (Q0 name_33),.fz (Qj b36.1),.no]) (Q3G (Kt (Yo (Xi 7 rfl) (Xh:VP _ _ (.int 3)) (Q7r _ _))) (Xz (δ':=[sDk s48.1,.fz (Q0 heads),.fz (Q0 blocks),.ow (Vg s48.2),.ow (Y2 s5.2.2.1),.ow (Y2 p7.2.2),.fz (Q0 p7.2.1),.fz (Q0 r10.1),.fz (Q0 r12.1),.fz (Q0 r14.1),.ow (Y2 l24.2.1),.fz (Q0 name_33),.fz (Qj b36.1),.no]) (Qc8 (QjM 4 (e:=Q0) (Xi 6 rfl)) (fun p56=>(Zm (v:=p56) rfl)))) (Zm (v:=s5.2.2.1) rfl)) (fun s55=>(Z4 (v:=(s48.1,s48.2,s55,p7.2.2)) rfl)))))))))))))))))))))))))))))))))))))))))  (fun s5=>(Xz (δ':=[sDk s5.1,.fz (Q0 heads),.fz (Q0 blocks),.ow (Vg s5.2.1),.ow (Y2 s5.2.2.1),.ow (Y2 s5.2.2.2),.no,.no,.no,.no,.no,.no,.no,.no]) (Qdh rfl rfl))))))))))))))
def Q3S (deck:Dk) (model:(List (Int × (Int × (List D))))) (blocks:Int):Option ((List (Int × (List Int))) × Dk):=((rgQ 4 (blocks + 1))).bind fun v1=>Q2f ([(2,[1,2,3])]) fun given_3=>((QaN model)).bind fun v4=>(Q4u (fun x6 s5=>(if (!decide (x6 = 2)) then ((((((Z0 model x6)).bind fun v8=>((Z0 model x6)).map fun v9=>(v8,v9))).bind fun b10=>(Q05 b10.1.1 b10.2.2).map fun v12=>(b10,v12))).bind fun r11=>((((Q8g r11.2)).bind fun v14=>(K5 v14 (Q8m (fun x20 s19=>(((((W2 s19.1 (W0 s19.2))).bind fun r21=>(Q5Q s19.2 r21.1).map fun v23=>(r21,v23))).map fun p22=>(p22.2.1,(p22.1.2,p22.2.2)))) v14 (s5.1,s5.2.1))).map fun v25=>(v14,v25))).bind fun l24=>(Q5E s5.2.2 x6 l24.2.1).bind fun u26=>(some (l24.2.2.1,l24.2.2.2,u26)) else (some (s5.1,s5.2.1,s5.2.2))).bind fun s7=>(some (s7.1,s7.2.1,s7.2.2))) v4 (deck,v1,given_3)).bind fun s5=>(some (s5.2.2,s5.1))
theorem QdB (deck:Dk) (model:(List (Int × (Int × (List D))))) (blocks:Int):∀ v,Q3S deck model blocks = some v → Q0J [sDk deck,.fz ((eDi Q0 (eP2 Q0 (eLi eD))) model),.fz (Q0 blocks)] = some (((eDi Q0 (eLi Q0)) v.1),[sDk v.2,.fz ((eDi Q0 (eP2 Q0 (eLi eD))) model),.fz (Q0 blocks)]):=by
 exact Zt (Xz (δ':=[sDk deck,.fz (Vg model),.fz (Q0 blocks),.no,.no,.no,.no,.no]) (Q1R (Yw (q:=(rgQ 4 (blocks + 1))) (e:=Y2) (Xh:VP _ _ (.int 4)) (Yo (Xi 2 rfl) (Xh:VP _ _ (.int 1)) (Yc _ _)) (fun _ h=>Qki _ _ _ h)) (fun v1=>(Xz (δ':=[sDk deck,.fz (Vg model),.fz (Q0 blocks),.ow (Y2 v1),.no,.no,.no,.no]) (QcU (e:=Zu) (v:=[(2,[1,2,3])]) (Q9M (Q6V (Xh:VP _ _ (.int 2)) ((W3 (Xl (Xh:VP _ _ (.int 1)) (Xl (Xh:VP _ _ (.int 2)) (Xl (Xh:VP _ _ (.int 3)) Xm)))):VP _ _ (Y2 ([1,2,3]))) Qcj) rfl:VP _ _ (Zu [(2,[1,2,3])])) (fun given_3=>(Q1C (Xz (δ':=[sDk deck,.fz (Vg model),.fz (Q0 blocks),.ow (Y2 v1),.ow (Zu given_3),.no,.no,.no]) (Q3U (Q73 (Q4k (q:=(QaN model)) (e:=Y2) (Xl (Xi 1 rfl) Xm) (fun _ h=>QhJ _ _ h)) (fun _=>Q2u _)) (fun v4=>(Q3g (e:=Q0) (st:=fun s5=>[sDk s5.1,.fz (Vg model),.fz (Q0 blocks),.ow (Y2 s5.2.1),.ow (Zu s5.2.2),.no,.no,.no]) (s0:=(deck,v1,given_3)) Q1A (fun x6 s5=>(Vh 5)) (fun x6 s5=>(Xz (δ':=[sDk s5.1,.fz (Vg model),.fz (Q0 blocks),.ow (Y2 s5.2.1),.ow (Zu s5.2.2),.fz (Q0 x6),.no,.no]) (Q1g (st:=fun s7=>[sDk s7.1,.fz (Vg model),.fz (Q0 blocks),.ow (Y2 s7.2.1),.ow (Zu s7.2.2),.fz (Q0 x6),.no,.no]) (Q3G (Kt (Yo (Xi 5 rfl) (Xh:VP _ _ (.int 2)) (Q4t gI _ _))) (Xz (δ':=[sDk s5.1,.fz (Vg model),.fz (Q0 blocks),.ow (Y2 s5.2.1),.ow (Zu s5.2.2),.fz (Q0 x6),.no,.no]) (Vk (K7 (Qbp (Wz (Y1 (Yw (q:=(Z0 model x6)) (e:=(eP2 Q0 (eLi eD))) (Xi 1 rfl) (Xi 5 rfl) (fun _ h=>Q6i kgI _ _ _ h)) (fun v8=>(Xl (Xh:VP _ _ (.int 0)) Xm))) (fun v8=>g2x (Qhn _ _))) (fun v8=>(Q2t (Wz (Y1 (Yw (q:=(Z0 model x6)) (e:=(eP2 Q0 (eLi eD))) (Xi 1 rfl) (Xi 5 rfl) (fun _ h=>Q6i kgI _ _ _ h)) (fun v9=>(Xl (Xh:VP _ _ (.int 1)) Xm))) (fun v9=>g2x (QeH _ _ _))) (fun v9=>Y9)))) (fun b10=>Q41 b10.1.1 b10.2.2)) (fun r11=>(Xz (δ':=[sDk s5.1,.fz (Vg model),.fz (Q0 blocks),.ow (Y2 s5.2.1),.ow (Zu s5.2.2),.fz (Q0 x6),.fz (Q0 r11.2),.no]) (Q6L (e:=fun _=>Zu) (Q4B (Qgp (Xl (Xi 6 rfl) Xm)) (fun v14=>(Q6T (e:=Q0) (e':=Q0) (st:=fun s19=>[sDk s19.1,.fz (Vg model),.fz (Q0 blocks),.ow (Y2 s19.2),.ow (Zu s5.2.2),.fz (Q0 x6),.fz (Q0 r11.2),.no]) (s0:=(s5.1,s5.2.1)) (δb:=fun x20 s19=>[sDk s19.1,.fz (Vg model),.fz (Q0 blocks),.ow (Y2 s19.2),.ow (Zu s5.2.2),.fz (Q0 x6),.fz (Q0 r11.2),.fz (Q0 x20)]) Q1A (fun x20 s19=>(Vh 7)) (fun x20 s19=>(Q1r (QaA 3 (e:=Q0) (Y7 (Vn 0 (Y3 (Q0q (Xl (Z2 3 rfl:VP _ _ (Y2 s19.2)) Xm) (Kr _)) Y9)) (Vr _ _ )) (fun _=>rfl)) (fun _=>rfl)))))) (fun l24=>(Xi 5 rfl)) (fun _=>rfl) (fun _ _ h=>Q9m (e':=Y2) kgI _ _ _ _ h) (fun l24 u26=>(QcQ (v:=(l24.2.2.1,l24.2.2.2,u26)) rfl))))))) (QcQ (v:=(s5.1,s5.2.1,s5.2.2)) rfl)) (fun s7=>(Z4 (v:=(s7.1,s7.2.1,s7.2.2)) rfl)))))  (fun s5=>(Xz (δ':=[sDk s5.1,.fz (Vg model),.fz (Q0 blocks),.ow (Y2 s5.2.1),.ow (Zu s5.2.2),.no,.no,.no]) (Qdh rfl rfl))))))))))))))
def Q5p (heads:Int) (blocks:Int) (model:(List (Int × (Int × (List D))))) (given:(List (Int × (List Int)))):Option (Int × Int × (List Int)):=(Qe9 ([0]) (((7 * heads) + (5 * blocks)) + 82)).bind fun v1=>(Q4u (fun x4 s3=>((Z0 model x4)).bind fun v5=>(((fun ds=>List.mapM asI ds) (if (decide (v5.1 = 1)) then v5.2 else []))).bind fun c7=>((List.mapM (Qe5 asI asI) (if (decide (v5.1 = 2)) then v5.2 else []))).bind fun v8=>(Q4u (fun x10 s9=>((QgZ s9.2 ([x10.1,x10.2]))).bind fun p11=>((atI s9.1 ((7 * x10.2) - 6))).bind fun v12=>(Q32 s9.1 ((7 * x10.2) - 6) (v12 + 1)).bind fun u13=>(some (u13,p11))) v8 (s3,c7)).bind fun s9=>(Q32 s9.1 ((7 * x4) - 7) v5.1).bind fun u14=>(Q32 u14 ((7 * x4) - 5) (W0 s9.2)).bind fun u15=>(Q32 u15 ((7 * x4) - 4) s9.2.sum).bind fun u16=>((Z0 given x4)).bind fun v17=>(Q4u (fun x19 s18=>(Q32 s18 (((7 * x4) - 3) + x19.1) x19.2).bind fun u20=>(Q32 u20 (((7 * heads) + x19.2) - 1) 1).bind fun u21=>(Q4u (fun x23 s22=>(Q32 s22 (((((7 * heads) + blocks) + (4 * x19.2)) - 4) + x23.1) x23.2).bind fun u24=>(some u24)) (Q6w (Yn s9.2 (some (4 * x19.1)) (some ((4 * x19.1) + 4)))) u21).bind fun s22=>(some s22)) (Q6w v17) u16).bind fun s18=>(some s18)) (model.map (·.1)) v1).bind fun s3=>(some (heads,blocks,s3))
theorem QfY (heads:Int) (blocks:Int) (model:(List (Int × (Int × (List D))))) (given:(List (Int × (List Int)))):∀ v,Q5p heads blocks model given = some v → Q1f [.fz (Q0 heads),.fz (Q0 blocks),.fz ((eDi Q0 (eP2 Q0 (eLi eD))) model),.fz ((eDi Q0 (eLi Q0)) given)] = some (((eP3 Q0 Q0 (eTu Q0)) v),[.fz (Q0 heads),.fz (Q0 blocks),.fz ((eDi Q0 (eP2 Q0 (eLi eD))) model),.fz ((eDi Q0 (eLi Q0)) given)]):=by
 exact Zt (Xz (δ':=[.fz (Q0 heads),.fz (Q0 blocks),.fz (Vg model),.fz (Zu given),.no,.no,.no,.no,.no,.no,.no,.no,.no,.no,.no]) (Q1R (Yw (q:=Qe9 ([0]) (((7 * heads) + (5 * blocks)) + 82)) (e:=Y2) ((W3 (Xl (Xh:VP _ _ (.int 0)) Xm)):VP _ _ (Y2 ([0]))) (Yo (Yo (Yo (Xh:VP _ _ (.int 7)) (Xi 0 rfl) (Vq _ _ rfl)) (Yo (Xh:VP _ _ (.int 5)) (Xi 1 rfl) (Vq _ _ rfl)) (Yc _ _)) (Xh:VP _ _ (.int 82)) (Yc _ _)) (fun _ h=>Qip _ _ _ h)) (fun v1=>(Q1C (Xz (δ':=[.fz (Q0 heads),.fz (Q0 blocks),.fz (Vg model),.fz (Zu given),.ow (Y2 v1),.no,.no,.no,.no,.no,.no,.no,.no,.no,.no]) (Q3g (e:=Q0) (st:=fun s3=>[.fz (Q0 heads),.fz (Q0 blocks),.fz (Vg model),.fz (Zu given),.ow (Y2 s3),.no,.no,.no,.no,.no,.no,.no,.no,.no,.no]) (s0:=v1) (Q2V (Xi 2 rfl) (QhN _)) (fun x4 s3=>(Vh 5)) (fun x4 s3=>(Xz (δ':=[.fz (Q0 heads),.fz (Q0 blocks),.fz (Vg model),.fz (Zu given),.ow (Y2 s3),.fz (Q0 x4),.no,.no,.no,.no,.no,.no,.no,.no,.no]) (Q6I (Yw (q:=(Z0 model x4)) (e:=(eP2 Q0 (eLi eD))) (Xi 2 rfl) (Xi 5 rfl) (fun _ h=>Q6i kgI _ _ _ h)) (fun v5=>(Q2y (Vi (Vh 7) (Vi (Vh 8) Q0i)))) (fun v5=>(Xz (δ':=[.fz (Q0 heads),.fz (Q0 blocks),.fz (Vg model),.fz (Zu given),.ow (Y2 s3),.fz (Q0 x4),.no,.fz (Q0 v5.1),.fz ((eLi eD) v5.2),.no,.no,.no,.no,.no,.no]) (Q1R (Q4w (q:=(fun ds=>List.mapM asI ds) (if (decide (v5.1 = 1)) then v5.2 else [])) (e:=Y2) (Qfj (e:=(eLi eD)) (Kt (Yo (Xi 7 rfl) (Xh:VP _ _ (.int 1)) (Q1I gI _ _))) (Q0q (Xl (Xi 8 rfl) Xm) (QgQ _)) ((W3 Xm):VP _ _ ((eLi eD) ([])))) ((dnL (Q6A)) _)) (fun c7=>(Q1C (Xz (δ':=[.fz (Q0 heads),.fz (Q0 blocks),.fz (Vg model),.fz (Zu given),.ow (Y2 s3),.fz (Q0 x4),.ow (Y2 c7),.fz (Q0 v5.1),.fz ((eLi eD) v5.2),.no,.no,.no,.no,.no,.no]) (Q3U (QfR (q:=(List.mapM (Qe5 asI asI) (if (decide (v5.1 = 2)) then v5.2 else []))) (z:=fun v=>List.map (eP2 Q0 Q0) v) (Qfj (e:=(eLi eD)) (Kt (Yo (Xi 7 rfl) (Xh:VP _ _ (.int 2)) (Q1I gI _ _))) (Xi 8 rfl) ((W3 Xm):VP _ _ ((eLi eD) ([])))) (fun _ h=>QjC (Qiy (Q6A) (Q6A)) _ _ h)) (fun v8=>(Q3g (e:=(eP2 Q0 Q0)) (st:=fun s9=>[.fz (Q0 heads),.fz (Q0 blocks),.fz (Vg model),.fz (Zu given),.ow (Y2 s9.1),.fz (Q0 x4),.ow (Y2 s9.2),.fz (Q0 v5.1),.fz ((eLi eD) v5.2),.no,.no,.no,.no,.no,.no]) (s0:=(s3,c7)) Q1A (fun x10 s9=>(Q2y (Vi (Vh 9) (Vi (Vh 10) Q0i)))) (fun x10 s9=>(Xz (δ':=[.fz (Q0 heads),.fz (Q0 blocks),.fz (Vg model),.fz (Zu given),.ow (Y2 s9.1),.fz (Q0 x4),.ow (Y2 s9.2),.fz (Q0 v5.1),.fz ((eLi eD) v5.2),.fz (Q0 x10.1),.fz (Q0 x10.2),.no,.no,.no,.no]) (Qc8 (Qjd 6 (e:=Q0) ((W3 (Xl (Xi 9 rfl) (Xl (Xi 10 rfl) Xm))):VP _ _ (Y2 ([x10.1,x10.2])))) (fun p11=>(Xz (δ':=[.fz (Q0 heads),.fz (Q0 blocks),.fz (Vg model),.fz (Zu given),.ow (Y2 s9.1),.fz (Q0 x4),.ow (Y2 p11),.fz (Q0 v5.1),.fz ((eLi eD) v5.2),.fz (Q0 x10.1),.fz (Q0 x10.2),.no,.no,.no,.no]) (Q6L (e:=fun _=>Y2) (Wz (Y1 (Yw (q:=(atI s9.1 ((7 * x10.2) - 6))) (e:=Q0) (Z2 4 rfl:VP _ _ (Y2 s9.1)) (Yo (Yo (Xh:VP _ _ (.int 7)) (Xi 10 rfl) (Vq _ _ rfl)) (Xh:VP _ _ (.int 6)) (Vz _ _)) (fun _ h=>K4 _ _ _ h)) (fun v12=>(Xl (Xh:VP _ _ (.int 1)) Xm))) (fun v12=>g2x (Yc _ _))) (fun v12=>(Yo (Yo (Xh:VP _ _ (.int 7)) (Xi 10 rfl) (Vq _ _ rfl)) (Xh:VP _ _ (.int 6)) (Vz _ _))) (fun _=>rfl) (fun _ _ h=>Q3a _ _ _ _ h) (fun v12 u13=>(Z4 (v:=(u13,p11)) rfl))))))))  (fun s9=>(Xz (δ':=[.fz (Q0 heads),.fz (Q0 blocks),.fz (Vg model),.fz (Zu given),.ow (Y2 s9.1),.fz (Q0 x4),.ow (Y2 s9.2),.fz (Q0 v5.1),.fz ((eLi eD) v5.2),.no,.no,.no,.no,.no,.no]) (Q4I (q:=(Q32 s9.1 ((7 * x4) - 7) v5.1)) (e:=Y2) (Xi 7 rfl) (Yo (Yo (Xh:VP _ _ (.int 7)) (Xi 5 rfl) (Vq _ _ rfl)) (Xh:VP _ _ (.int 7)) (Vz _ _)) rfl (fun _ h=>Q3a _ _ _ _ h) (fun u14=>(Xz (δ':=[.fz (Q0 heads),.fz (Q0 blocks),.fz (Vg model),.fz (Zu given),.ow (Y2 u14),.fz (Q0 x4),.ow (Y2 s9.2),.fz (Q0 v5.1),.fz ((eLi eD) v5.2),.no,.no,.no,.no,.no,.no]) (Q4I (q:=(Q32 u14 ((7 * x4) - 5) (W0 s9.2))) (e:=Y2) (Q0q (Xl (Z2 6 rfl:VP _ _ (Y2 s9.2)) Xm) (Kr _)) (Yo (Yo (Xh:VP _ _ (.int 7)) (Xi 5 rfl) (Vq _ _ rfl)) (Xh:VP _ _ (.int 5)) (Vz _ _)) rfl (fun _ h=>Q3a _ _ _ _ h) (fun u15=>(Xz (δ':=[.fz (Q0 heads),.fz (Q0 blocks),.fz (Vg model),.fz (Zu given),.ow (Y2 u15),.fz (Q0 x4),.ow (Y2 s9.2),.fz (Q0 v5.1),.fz ((eLi eD) v5.2),.no,.no,.no,.no,.no,.no]) (Q4I (q:=(Q32 u15 ((7 * x4) - 4) s9.2.sum)) (e:=Y2) (Q0q (Xl (Z2 6 rfl:VP _ _ (Y2 s9.2)) Xm) (QhW _)) (Yo (Yo (Xh:VP _ _ (.int 7)) (Xi 5 rfl) (Vq _ _ rfl)) (Xh:VP _ _ (.int 4)) (Vz _ _)) rfl (fun _ h=>Q3a _ _ _ _ h) (fun u16=>(Q1C (Xz (δ':=[.fz (Q0 heads),.fz (Q0 blocks),.fz (Vg model),.fz (Zu given),.ow (Y2 u16),.fz (Q0 x4),.ow (Y2 s9.2),.fz (Q0 v5.1),.fz ((eLi eD) v5.2),.no,.no,.no,.no,.no,.no]) (Q3U (Qgu (Yw (q:=(Z0 given x4)) (e:=Y2) (Xi 3 rfl) (Xi 5 rfl) (fun _ h=>Q6i kgI _ _ _ h)) (fun _=>rfl)) (fun v17=>(Q3g (e:=(eP2 Q0 Q0)) (st:=fun s18=>[.fz (Q0 heads),.fz (Q0 blocks),.fz (Vg model),.fz (Zu given),.ow (Y2 s18),.fz (Q0 x4),.ow (Y2 s9.2),.fz (Q0 v5.1),.fz ((eLi eD) v5.2),.no,.no,.no,.no,.no,.no]) (s0:=u16) Q1A (fun x19 s18=>(Q2y (Vi (Vh 11) (Vi (Vh 12) Q0i)))) (fun x19 s18=>(Xz (δ':=[.fz (Q0 heads),.fz (Q0 blocks),.fz (Vg model),.fz (Zu given),.ow (Y2 s18),.fz (Q0 x4),.ow (Y2 s9.2),.fz (Q0 v5.1),.fz ((eLi eD) v5.2),.no,.no,.fz (Q0 x19.1),.fz (Q0 x19.2),.no,.no]) (Q4I (q:=(Q32 s18 (((7 * x4) - 3) + x19.1) x19.2)) (e:=Y2) (Xi 12 rfl) (Yo (Yo (Yo (Xh:VP _ _ (.int 7)) (Xi 5 rfl) (Vq _ _ rfl)) (Xh:VP _ _ (.int 3)) (Vz _ _)) (Xi 11 rfl) (Yc _ _)) rfl (fun _ h=>Q3a _ _ _ _ h) (fun u20=>(Xz (δ':=[.fz (Q0 heads),.fz (Q0 blocks),.fz (Vg model),.fz (Zu given),.ow (Y2 u20),.fz (Q0 x4),.ow (Y2 s9.2),.fz (Q0 v5.1),.fz ((eLi eD) v5.2),.no,.no,.fz (Q0 x19.1),.fz (Q0 x19.2),.no,.no]) (Q4I (q:=(Q32 u20 (((7 * heads) + x19.2) - 1) 1)) (e:=Y2) (Xh:VP _ _ (.int 1)) (Yo (Yo (Yo (Xh:VP _ _ (.int 7)) (Xi 0 rfl) (Vq _ _ rfl)) (Xi 12 rfl) (Yc _ _)) (Xh:VP _ _ (.int 1)) (Vz _ _)) rfl (fun _ h=>Q3a _ _ _ _ h) (fun u21=>(Q1C (Xz (δ':=[.fz (Q0 heads),.fz (Q0 blocks),.fz (Vg model),.fz (Zu given),.ow (Y2 u21),.fz (Q0 x4),.ow (Y2 s9.2),.fz (Q0 v5.1),.fz ((eLi eD) v5.2),.no,.no,.fz (Q0 x19.1),.fz (Q0 x19.2),.no,.no]) (Q3g (e:=(eP2 Q0 Q0)) (st:=fun s22=>[.fz (Q0 heads),.fz (Q0 blocks),.fz (Vg model),.fz (Zu given),.ow (Y2 s22),.fz (Q0 x4),.ow (Y2 s9.2),.fz (Q0 v5.1),.fz ((eLi eD) v5.2),.no,.no,.fz (Q0 x19.1),.fz (Q0 x19.2),.no,.no]) (s0:=u21) (QhD (Q0d (Z2 6 rfl:VP _ _ (Y2 s9.2)) (Yq (Yo (Xh:VP _ _ (.int 4)) (Xi 11 rfl) (Vq _ _ rfl))) (Yq (Yo (Yo (Xh:VP _ _ (.int 4)) (Xi 11 rfl) (Vq _ _ rfl)) (Xh:VP _ _ (.int 4)) (Yc _ _))) (K3 _ _ _))) (fun x23 s22=>(Q2y (Vi (Vh 13) (Vi (Vh 14) Q0i)))) (fun x23 s22=>(Xz (δ':=[.fz (Q0 heads),.fz (Q0 blocks),.fz (Vg model),.fz (Zu given),.ow (Y2 s22),.fz (Q0 x4),.ow (Y2 s9.2),.fz (Q0 v5.1),.fz ((eLi eD) v5.2),.no,.no,.fz (Q0 x19.1),.fz (Q0 x19.2),.fz (Q0 x23.1),.fz (Q0 x23.2)]) (Q4I (q:=(Q32 s22 (((((7 * heads) + blocks) + (4 * x19.2)) - 4) + x23.1) x23.2)) (e:=Y2) (Xi 14 rfl) (Yo (Yo (Yo (Yo (Yo (Xh:VP _ _ (.int 7)) (Xi 0 rfl) (Vq _ _ rfl)) (Xi 1 rfl) (Yc _ _)) (Yo (Xh:VP _ _ (.int 4)) (Xi 12 rfl) (Vq _ _ rfl)) (Yc _ _)) (Xh:VP _ _ (.int 4)) (Vz _ _)) (Xi 13 rfl) (Yc _ _)) rfl (fun _ h=>Q3a _ _ _ _ h) (fun u24=>(Z4 (v:=u24) rfl)))))  (fun s22=>(Z4 (v:=s22) rfl))))))))))))  (fun s18=>(Z4 (v:=s18) rfl)))))))))))))))))))))))))))))  (fun s3=>(Xz (δ':=[.fz (Q0 heads),.fz (Q0 blocks),.fz (Vg model),.fz (Zu given),.ow (Y2 s3),.no,.no,.no,.no,.no,.no,.no,.no,.no,.no]) (Z1 ((Q02 (Xl (Xi 0 rfl) (Xl (Xi 1 rfl) (Xl (Q0q (Xl (Z2 4 rfl:VP _ _ (Y2 s3)) Xm) (Q83 _)) Xm)))):VP _ _ (Q0c (heads,blocks,s3))) rfl)))))))))
def Q3Q (deck:Dk):Option ((Int × Int × (List Int)) × Dk):=((Q40 deck)).bind fun r1=>((Q3W r1.2 r1.1.1 r1.1.2)).bind fun r2=>((((Q3S r2.2 r2.1 r1.1.2)).bind fun r4=>(Q5p r1.1.1 r1.1.2 r2.1 r4.1).map fun v6=>(r4,v6))).bind fun r5=>(some (r5.2,r5.1.2))
theorem Qea (deck:Dk):∀ v,Q3Q deck = some v → Q0G [sDk deck] = some (((eP3 Q0 Q0 (eTu Q0)) v.1),[sDk v.2]):=by
 exact Zt (Q6I (Y7 (Vn 0 Y9) (Qej _ )) (fun r1=>(Q2y (Vi (Vh 1) (Vi (Vh 2) Q0i)))) (fun r1=>(Vk (Y7 (Vn 0 (Y3 (Xi 1 rfl) (Y3 (Xi 2 rfl) Y9))) (Qe2 _ _ _ )) (fun r2=>(Vb (K7 (Qd8 (Xi 1 rfl) (Qd8 (Xi 2 rfl) (Qd8 (Xi 3 rfl) (Q2t (Y7 (Vn 0 (Y3 (Xi 3 rfl) (Y3 (Xi 2 rfl) Y9))) (QdB _ _ _ )) (fun r4=>Y9))))) (fun r4=>QfY r1.1.1 r1.1.2 r2.1 r4.1)) (fun _=>rfl))))))
def Q1B (deck:Dk):Option (Int × Dk):=((W2 deck 8)).bind fun r1=>if (decide (r1.1 < 4)) then ((W2 r1.2 4)).bind fun r3=>(some (r3.1,r3.2)) else if (decide (r1.1 < 6)) then ((W2 r1.2 120)).bind fun r4=>(some ((r4.1 - 10),r4.2)) else ((((atI ([2,6]) (r1.1 - 6))).bind fun v6=>(Q8g v6).map fun v8=>(v6,v8))).bind fun b7=>(Q4u (fun x10 s9=>(((Q23 s9.2 (10 ^ 6:Int)).bind fun v11=>((W2 s9.1 (10 ^ 6:Int))).map fun r12=>(v11,r12))).bind fun b13=>Q2f (b13.1 + b13.2.1) fun number_14=>(some (b13.2.2,number_14))) b7.2 (r1.2,0)).bind fun s9=>((((W2 s9.1 6)).bind fun r15=>((atI ([s9.2,(0 - s9.2),((10 ^ 39:Int) + s9.2),((10 ^ 40:Int) - 1),(0 - s9.2),(1 - (10 ^ 40:Int))]) r15.1)).map fun v17=>(r15,v17))).bind fun b16=>(some (b16.2,b16.1.2))
theorem Q81 (deck:Dk):∀ v,Q1B deck = some v → Z5 [sDk deck] = some ((Q0 v.1),[sDk v.2]):=by
 exact Zt (Vk (Y7 (Vn 0 (Y3 (Xh:VP _ _ (.int 8)) Y9)) (Vr _ _ )) (fun r1=>(Xz (δ':=[sDk r1.2,.fz (Q0 r1.1),.no,.no]) (Q4o (Kt (Yo (Xi 1 rfl) (Xh:VP _ _ (.int 4)) (Q7r _ _))) (Vt (Vb (Y7 (Vn 0 (Y3 (Xh:VP _ _ (.int 4)) Y9)) (Vr _ _ )) (fun _=>rfl))) (Wb (Xz (δ':=[sDk r1.2,.fz (Q0 r1.1),.no,.no]) (Q4o (Kt (Yo (Xi 1 rfl) (Xh:VP _ _ (.int 6)) (Q7r _ _))) (Vt (Vb (Wz (Y1 (Y7 (Vn 0 (Y3 (Xh:VP _ _ (.int 120)) Y9)) (Vr _ _ )) (fun r4=>(Xl (Xh:VP _ _ (.int 10)) Xm))) (fun r4=>g2x (Vz _ _))) (fun _=>rfl))) (Wb (Q7g (Xh:VP _ _ (.int 0)) (Q1C (Xz (δ':=[sDk r1.2,.fz (Q0 r1.1),.fz (Q0 0),.no]) (Q3U (Q5I  (Y1 (Yw (q:=(atI ([2,6]) (r1.1 - 6))) (e:=Q0) ((W3 (Xl (Xh:VP _ _ (.int 2)) (Xl (Xh:VP _ _ (.int 6)) Xm))):VP _ _ (Y2 ([2,6]))) (Yo (Xi 1 rfl) (Xh:VP _ _ (.int 6)) (Vz _ _)) (fun _ h=>K4 _ _ _ h)) (fun v6=>Xm)) (fun _=>rfl)) (fun b7=>(Q3g (e:=Q0) (st:=fun s9=>[sDk s9.1,.fz (Q0 r1.1),.fz (Q0 s9.2),.no]) (s0:=(r1.2,0)) Q1A (fun x10 s9=>(Vh 3)) (fun x10 s9=>(Q2E (e:=Q0) (Wz (Wf (Yw (q:=Q23 s9.2 (10 ^ 6:Int)) (e:=Q0) (Xi 2 rfl) (Yo (Xh:VP _ _ (.int 10)) (Xh:VP _ _ (.int 6)) (show Q33 (.int 10) (.int 6) = some (.int (10 ^ 6)) from rfl)) (fun _ h=>Q74 _ _ _ h)) (fun v11=>(Y1 (Y7 (Vn 0 (Y3 (Yo (Xh:VP _ _ (.int 10)) (Xh:VP _ _ (.int 6)) (show Q33 (.int 10) (.int 6) = some (.int (10 ^ 6)) from rfl)) Y9)) (Vr _ _ )) (fun r12=>Xm)))) (fun b13=>g2x (Yc _ _))) (fun _=>rfl) (fun b13 number_14=>(Z4 (v:=(b13.2.2,number_14)) rfl))))  (fun s9=>(Vb (V6 (e:=fun _=>Q0) (Yz ((W3 (Xl (Xi 2 rfl) (Xl (Yo (Xh:VP _ _ (.int 0)) (Xi 2 rfl) (Vz _ _)) (Xl (Yo (Yo (Xh:VP _ _ (.int 10)) (Xh:VP _ _ (.int 39)) (show Q33 (.int 10) (.int 39) = some (.int (10 ^ 39)) from rfl)) (Xi 2 rfl) (Yc _ _)) (Xl (Yo (Yo (Xh:VP _ _ (.int 10)) (Xh:VP _ _ (.int 40)) (show Q33 (.int 10) (.int 40) = some (.int (10 ^ 40)) from rfl)) (Xh:VP _ _ (.int 1)) (Vz _ _)) (Xl (Yo (Xh:VP _ _ (.int 0)) (Xi 2 rfl) (Vz _ _)) (Xl (Yo (Xh:VP _ _ (.int 1)) (Yo (Xh:VP _ _ (.int 10)) (Xh:VP _ _ (.int 40)) (show Q33 (.int 10) (.int 40) = some (.int (10 ^ 40)) from rfl)) (Vz _ _)) Xm))))))):VP _ _ (Y2 ([s9.2,(0 - s9.2),((10 ^ 39:Int) + s9.2),((10 ^ 40:Int) - 1),(0 - s9.2),(1 - (10 ^ 40:Int))]))) (Y1 (Y7 (Vn 0 (Y3 (Xh:VP _ _ (.int 6)) Y9)) (Vr _ _ )) (fun r15=>Xm))) (fun r15 _ h=>g2x (K4 _ _ _ h))) (fun _=>rfl)))))))))))))))))
def Q0H (deck:Dk):Option ((Int × Int × (List Int)) × Dk):=((W2 deck 3)).bind fun r1=>((Q3Q r1.2)).bind fun r3=>if (decide (r1.1 = 0)) then ((K5 r3.1.2.2 (Q8m (fun x7 s6=>(((Q1B s6)).map fun r8=>(r8.1,r8.2))) r3.1.2.2 r3.2))).bind fun l9=>(some ((r3.1.1,r3.1.2.1,l9.1),l9.2)) else ((((((W2 r3.2 12)).bind fun r11=>(Q23 r1.1 r11.1).map fun v13=>(r11,v13))).bind fun b12=>(Q8g b12.2).map fun v15=>(b12,v15))).bind fun b14=>(Q4u (fun x17 s16=>((Q1B s16.1)).bind fun r18=>((W2 r18.2 (W0 s16.2))).bind fun r19=>(Q32 s16.2 r19.1 r18.1).bind fun u20=>(some (r19.2,u20))) b14.2 (b14.1.1.2,r3.1.2.2)).bind fun s16=>(some ((r3.1.1,r3.1.2.1,s16.2),s16.1))
theorem Q8k (deck:Dk):∀ v,Q0H deck = some v → Kv [sDk deck] = some (((eP3 Q0 Q0 (eTu Q0)) v.1),[sDk v.2]):=by
 exact Zt (Xz (δ':=[sDk deck,.no,.no,.no,.no,.no,.no]) (Vk (Y7 (Vn 0 (Y3 (Xh:VP _ _ (.int 3)) Y9)) (Vr _ _ )) (fun r1=>(Xz (δ':=[sDk r1.2,.fz (Q0 r1.1),.no,.no,.no,.no,.no]) (Q6I (Y7 (Vn 0 Y9) (Qea _ )) (fun r3=>(Q2y (Vi (Vh 2) (Vi (Vh 3) (Vi (Vh 4) Q0i))))) (fun r3=>(Xz (δ':=[sDk r3.2,.fz (Q0 r1.1),.fz (Q0 r3.1.1),.fz (Q0 r3.1.2.1),.fz ((eTu Q0) r3.1.2.2),.no,.no]) (Q4o (Kt (Yo (Xi 1 rfl) (Xh:VP _ _ (.int 0)) (Q1I gI _ _))) (Vt (Xz (δ':=[sDk r3.2,.fz (Q0 r1.1),.fz (Q0 r3.1.1),.fz (Q0 r3.1.2.1),.fz ((eTu Q0) r3.1.2.2),.no,.no]) (Vb (Q04 (z:=fun l9=>(Q0c (r3.1.1,r3.1.2.1,l9.1))) (Q4G (Yz (Xi 2 rfl) (Yz (Xi 3 rfl) (Y1 (Q9L (Y1 (Q6T (e:=Q0) (e':=Q0) (st:=fun s6=>[sDk s6,.fz (Q0 r1.1),.fz (Q0 r3.1.1),.fz (Q0 r3.1.2.1),.fz ((eTu Q0) r3.1.2.2),.no,.no]) (s0:=r3.2) (δb:=fun x7 s6=>[sDk s6,.fz (Q0 r1.1),.fz (Q0 r3.1.1),.fz (Q0 r3.1.2.1),.fz ((eTu Q0) r3.1.2.2),.fz (Q0 x7),.no]) (Q2V (Xi 4 rfl) (QhU _)) (fun x7 s6=>(Vh 5)) (fun x7 s6=>(Q1r (Y7 (Vn 0 Y9) (Q81 _ )) (fun _=>rfl)))) (fun l9=>Xm)) (fun l9=>Q83 _)) (fun l9=>Xm))))) (fun _=>rfl)) (fun _=>rfl)))) (Wb (Xz (δ':=[sDk r3.2,.fz (Q0 r1.1),.fz (Q0 r3.1.1),.fz (Q0 r3.1.2.1),.fz ((eTu Q0) r3.1.2.2),.no,.no]) (Qcc (Q0q (Xl (Xi 4 rfl) Xm) (Qgs _)) (Q1C (Xz (δ':=[sDk r3.2,.fz (Q0 r1.1),.fz (Q0 r3.1.1),.fz (Q0 r3.1.2.1),.ow (Y2 r3.1.2.2),.no,.no]) (Q3U (Q5I  (Y1 (V6 (e:=fun _=>Q0) (Yz (Xi 1 rfl) (Y1 (Y7 (Vn 0 (Y3 (Xh:VP _ _ (.int 12)) Y9)) (Vr _ _ )) (fun r11=>Xm))) (fun r11 _ h=>g2x (Q74 _ _ _ h))) (fun b12=>Xm)) (fun _=>rfl)) (fun b14=>(Q3g (e:=Q0) (st:=fun s16=>[sDk s16.1,.fz (Q0 r1.1),.fz (Q0 r3.1.1),.fz (Q0 r3.1.2.1),.ow (Y2 s16.2),.no,.no]) (s0:=(b14.1.1.2,r3.1.2.2)) Q1A (fun x17 s16=>(Vh 6)) (fun x17 s16=>(Xz (δ':=[sDk s16.1,.fz (Q0 r1.1),.fz (Q0 r3.1.1),.fz (Q0 r3.1.2.1),.ow (Y2 s16.2),.no,.fz (Q0 x17)]) (Qge (e:=fun _ _=>Y2) (Y7 (Vn 0 Y9) (Q81 _ )) (fun r18=>(Y7 (Vn 0 (Y3 (Q0q (Xl (Z2 4 rfl:VP _ _ (Y2 s16.2)) Xm) (Kr _)) Y9)) (Vr _ _ ))) (fun _=>rfl) (fun _ _=>rfl) (fun _ _ _ h=>Q3a _ _ _ _ h) (fun r18 r19 u20=>(Z4 (v:=(r19.2,u20)) rfl)))))  (fun s16=>(Xz (δ':=[sDk s16.1,.fz (Q0 r1.1),.fz (Q0 r3.1.1),.fz (Q0 r3.1.2.1),.ow (Y2 s16.2),.no,.no]) (Z1 ((Q02 (Xl (Xi 2 rfl) (Xl (Xi 3 rfl) (Xl (Q0q (Xl (Z2 4 rfl:VP _ _ (Y2 s16.2)) Xm) (Q83 _)) Xm)))):VP _ _ (Q0c (r3.1.1,r3.1.2.1,s16.2))) rfl)))))))))))))))))))
def Q39 (store:(Int × Int × (List Int))):Option Str:=Q2f ([((eLi Q0) ([store.1,store.2.1])),((eTu Q0) (Yn store.2.2 none (some (7 * store.1)))),((eTu Q0) (Yn store.2.2 (some (7 * store.1)) (some ((7 * store.1) + store.2.1))))]) fun rows_1=>(Wg rows_1 ([((eTu Q0) (Yn store.2.2 (some ((7 * store.1) + store.2.1)) (some ((7 * store.1) + (5 * store.2.1))))),((eTu Q0) (Yn store.2.2 (some ((7 * store.1) + (5 * store.2.1))) none))])).bind fun v2=>((((K5 v2 (mapM (fun x4=>(((((((Kq x4)).bind fun v5=>(K5 v5 (mapM (fun x6=>(Q6G x6)) v5)).map fun v10=>(v5,v10))).bind fun l9=>(((Q1z (Q3 (" ":Str)) ((eLi eD) l9.2)).bind asS)).map fun v12=>(l9,v12))).map fun b11=>b11.2)) v2))).bind fun l13=>((Q1V ("\n":Str) l13)).map fun v15=>(l13,v15))).bind fun b14=>(some b14.2)
theorem Qap (store:(Int × Int × (List Int))):∀ v,Q39 store = some v → Zd [.fz ((eP3 Q0 Q0 (eTu Q0)) store)] = some ((Q3 v),[.fz ((eP3 Q0 Q0 (eTu Q0)) store)]):=by
 exact Zt (Xz (δ':=[.fz (Q0c store),.no,.no,.no,.no,.no,.no]) (Qj4 (Xi 0 rfl) (Q2y (Vi (Vh 1) (Vi (Vh 2) (Vi (Vh 3) Q0i)))) (Xz (δ':=[.fz (Q0c store),.fz (Q0 store.1),.fz (Q0 store.2.1),.fz ((eTu Q0) store.2.2),.no,.no,.no]) (Q3V (e:=(eLi eD)) (v:=[(Y2 ([store.1,store.2.1])),((eTu Q0) (Yn store.2.2 none (some (7 * store.1)))),((eTu Q0) (Yn store.2.2 (some (7 * store.1)) (some ((7 * store.1) + store.2.1))))]) ((W3 (Xl ((W3 (Xl (Xi 1 rfl) (Xl (Xi 2 rfl) Xm))):VP _ _ (Y2 ([store.1,store.2.1]))) (Xl (Q0d (Xi 3 rfl) Vc (Yq (Yo (Xh:VP _ _ (.int 7)) (Xi 1 rfl) (Vq _ _ rfl))) (Qdn _ _ _)) (Xl (Q0d (Xi 3 rfl) (Yq (Yo (Xh:VP _ _ (.int 7)) (Xi 1 rfl) (Vq _ _ rfl))) (Yq (Yo (Yo (Xh:VP _ _ (.int 7)) (Xi 1 rfl) (Vq _ _ rfl)) (Xi 2 rfl) (Yc _ _))) (Qdn _ _ _)) Xm)))):VP _ _ ((eLi eD) ([(Y2 ([store.1,store.2.1])),((eTu Q0) (Yn store.2.2 none (some (7 * store.1)))),((eTu Q0) (Yn store.2.2 (some (7 * store.1)) (some ((7 * store.1) + store.2.1))))]))) (fun rows_1=>(Xz (δ':=[.fz (Q0c store),.fz (Q0 store.1),.fz (Q0 store.2.1),.fz ((eTu Q0) store.2.2),.fz ((eLi eD) rows_1),.no,.no]) (Vk (Yw (q:=Wg rows_1 ([((eTu Q0) (Yn store.2.2 (some ((7 * store.1) + store.2.1)) (some ((7 * store.1) + (5 * store.2.1))))),((eTu Q0) (Yn store.2.2 (some ((7 * store.1) + (5 * store.2.1))) none))])) (e:=(eLi eD)) (Xi 4 rfl) ((W3 (Xl (Q0d (Xi 3 rfl) (Yq (Yo (Yo (Xh:VP _ _ (.int 7)) (Xi 1 rfl) (Vq _ _ rfl)) (Xi 2 rfl) (Yc _ _))) (Yq (Yo (Yo (Xh:VP _ _ (.int 7)) (Xi 1 rfl) (Vq _ _ rfl)) (Yo (Xh:VP _ _ (.int 5)) (Xi 2 rfl) (Vq _ _ rfl)) (Yc _ _))) (Qdn _ _ _)) (Xl (Q0d (Xi 3 rfl) (Yq (Yo (Yo (Xh:VP _ _ (.int 7)) (Xi 1 rfl) (Vq _ _ rfl)) (Yo (Xh:VP _ _ (.int 5)) (Xi 2 rfl) (Vq _ _ rfl)) (Yc _ _))) Vc (Qdn _ _ _)) Xm))):VP _ _ ((eLi eD) ([((eTu Q0) (Yn store.2.2 (some ((7 * store.1) + store.2.1)) (some ((7 * store.1) + (5 * store.2.1))))),((eTu Q0) (Yn store.2.2 (some ((7 * store.1) + (5 * store.2.1))) none))]))) (fun _ h=>W4 _ _ _ h)) (fun v2=>(Xz (δ':=[.fz (Q0c store),.fz (Q0 store.1),.fz (Q0 store.2.1),.fz ((eTu Q0) store.2.2),.fz ((eLi eD) v2),.no,.no]) (Vb (V6 (e:=fun _=>Q3) (Yz (Xh:VP _ _ (.str ("\n":Str))) (Y1 (Q3Y (e:=eD) (e':=Q3) (Q2V (Xi 4 rfl) (Q2u _)) (fun x4=>(Vh 5)) (fun x4=>(Q1r (V6 (e:=fun _=>Q3) (Yz (Xh:VP _ _ (.str (" ":Str))) (Y1 (Q4B (QfR (q:=(Kq x4)) (z:=fun v=>List.map eD v) (Xi 5 rfl) (fun _ h=>QiZ _ _ h)) (fun v5=>(Q3Y (e:=eD) (e':=eD) Q1A (fun x6=>(Vh 6)) (fun x6=>(QaC (Q4k (q:=(Q6G x6)) (e:=eD) (Xl (Xi 6 rfl) Xm) (fun _ h=>h)) (fun _=>rfl)))))) (fun l9=>Xm))) (fun l9 _ h=>g2x (rawS _ _ h))) (fun _=>rfl)))) (fun l13=>Xm))) (fun l13 _ h=>g2x (Q20 _ _ _ h))) (fun _=>rfl)))))))))))
def Q5b (deck:Dk):Option (Str × Dk):=Q2f ([("-0":Str),("00":Str),("01":Str),("+1":Str),("1_0":Str),("1.0":Str),("":Str),("-":Str),("--1":Str),("-01":Str),("0":Str),("1":Str),("-1":Str),(".":Str),("None":Str),("1,2":Str),("0x1":Str),("- 1":Str)]) fun some_1=>((((((Ku ("9":Str) 40)).bind fun v2=>((((Ku ("9":Str) 41)).bind fun v3=>((((((Ku ("9":Str) 40)).bind fun v4=>(Q1e ("-":Str) v4).map fun v6=>(v4,v6))).bind fun b5=>((((((Ku ("9":Str) 41)).bind fun v7=>(Q1e ("-":Str) v7).map fun v9=>(v7,v9))).bind fun b8=>((((((Ku ("0":Str) 39)).bind fun v10=>(Q1e ("1":Str) v10).map fun v12=>(v10,v12))).bind fun b11=>((((Ku ("0":Str) 40)).bind fun v13=>(Q1e ("1":Str) v13).map fun v15=>(v13,v15))).map fun b14=>(b11,b14))).map fun b16=>(b8,b16))).map fun b17=>(b5,b17))).map fun b18=>(v3,b18))).map fun b19=>(v2,b19))).bind fun b20=>(Wg some_1 ([b20.1,b20.2.1,b20.2.2.1.2,b20.2.2.2.1.2,b20.2.2.2.2.1.2,b20.2.2.2.2.2.2,("2":Str),("3":Str),("8":Str),("9":Str)])).map fun v22=>(b20,v22))).bind fun b21=>((((((((W2 deck 600)).bind fun r24=>((Ku ("7":Str) (41 + r24.1))).map fun v26=>(r24,v26))).bind fun b25=>(Wg b21.2 ([("12":Str),("13":Str),b25.2])).map fun v28=>(b25,v28))).bind fun b27=>(Wo b27.1.1.2 b27.2).map fun v30=>(b27,v30))).bind fun r29=>(some (r29.2.1,r29.2.2))
theorem Qeo (deck:Dk):∀ v,Q5b deck = some v → Q14 [sDk deck] = some ((Q3 v.1),[sDk v.2]):=by
 exact Zt (Q3V (e:=(eLi Q3)) (v:=[("-0":Str),("00":Str),("01":Str),("+1":Str),("1_0":Str),("1.0":Str),("":Str),("-":Str),("--1":Str),("-01":Str),("0":Str),("1":Str),("-1":Str),(".":Str),("None":Str),("1,2":Str),("0x1":Str),("- 1":Str)]) ((W3 (Xl (Xh:VP _ _ (.str ("-0":Str))) (Xl (Xh:VP _ _ (.str ("00":Str))) (Xl (Xh:VP _ _ (.str ("01":Str))) (Xl (Xh:VP _ _ (.str ("+1":Str))) (Xl (Xh:VP _ _ (.str ("1_0":Str))) (Xl (Xh:VP _ _ (.str ("1.0":Str))) (Xl (Xh:VP _ _ (.str ("":Str))) (Xl (Xh:VP _ _ (.str ("-":Str))) (Xl (Xh:VP _ _ (.str ("--1":Str))) (Xl (Xh:VP _ _ (.str ("-01":Str))) (Xl (Xh:VP _ _ (.str ("0":Str))) (Xl (Xh:VP _ _ (.str ("1":Str))) (Xl (Xh:VP _ _ (.str ("-1":Str))) (Xl (Xh:VP _ _ (.str (".":Str))) (Xl (Xh:VP _ _ (.str ("None":Str))) (Xl (Xh:VP _ _ (.str ("1,2":Str))) (Xl (Xh:VP _ _ (.str ("0x1":Str))) (Xl (Xh:VP _ _ (.str ("- 1":Str))) Xm))))))))))))))))))):VP _ _ ((eLi Q3) ([("-0":Str),("00":Str),("01":Str),("+1":Str),("1_0":Str),("1.0":Str),("":Str),("-":Str),("--1":Str),("-01":Str),("0":Str),("1":Str),("-1":Str),(".":Str),("None":Str),("1,2":Str),("0x1":Str),("- 1":Str)]))) (fun some_1=>(Vk (V6 (e:=fun _=>(eLi Q3)) (Yz (Xi 1 rfl) (Y1 (Q04 (z:=fun b20=>((eLi Q3) ([b20.1,b20.2.1,b20.2.2.1.2,b20.2.2.2.1.2,b20.2.2.2.2.1.2,b20.2.2.2.2.2.2,("2":Str),("3":Str),("8":Str),("9":Str)]))) (Q1x (Wf (Yw (q:=(Ku ("9":Str) 40)) (e:=Q3) (Xh:VP _ _ (.str ("9":Str))) (Xh:VP _ _ (.int 40)) (fun _ h=>Q11 _ _ _ h)) (fun v2=>(Wf (Yw (q:=(Ku ("9":Str) 41)) (e:=Q3) (Xh:VP _ _ (.str ("9":Str))) (Xh:VP _ _ (.int 41)) (fun _ h=>Q11 _ _ _ h)) (fun v3=>(Wf (V6 (e:=fun _=>Q3) (Yz (Xh:VP _ _ (.str ("-":Str))) (Y1 (Yw (q:=(Ku ("9":Str) 40)) (e:=Q3) (Xh:VP _ _ (.str ("9":Str))) (Xh:VP _ _ (.int 40)) (fun _ h=>Q11 _ _ _ h)) (fun v4=>Xm))) (fun v4 _ h=>g2x (Zj _ _ _ h))) (fun b5=>(Wf (V6 (e:=fun _=>Q3) (Yz (Xh:VP _ _ (.str ("-":Str))) (Y1 (Yw (q:=(Ku ("9":Str) 41)) (e:=Q3) (Xh:VP _ _ (.str ("9":Str))) (Xh:VP _ _ (.int 41)) (fun _ h=>Q11 _ _ _ h)) (fun v7=>Xm))) (fun v7 _ h=>g2x (Zj _ _ _ h))) (fun b8=>(Wf (V6 (e:=fun _=>Q3) (Yz (Xh:VP _ _ (.str ("1":Str))) (Y1 (Yw (q:=(Ku ("0":Str) 39)) (e:=Q3) (Xh:VP _ _ (.str ("0":Str))) (Xh:VP _ _ (.int 39)) (fun _ h=>Q11 _ _ _ h)) (fun v10=>Xm))) (fun v10 _ h=>g2x (Zj _ _ _ h))) (fun b11=>(Y1 (V6 (e:=fun _=>Q3) (Yz (Xh:VP _ _ (.str ("1":Str))) (Y1 (Yw (q:=(Ku ("0":Str) 40)) (e:=Q3) (Xh:VP _ _ (.str ("0":Str))) (Xh:VP _ _ (.int 40)) (fun _ h=>Q11 _ _ _ h)) (fun v13=>Xm))) (fun v13 _ h=>g2x (Zj _ _ _ h))) (fun b14=>(Xl (Xh:VP _ _ (.str ("2":Str))) (Xl (Xh:VP _ _ (.str ("3":Str))) (Xl (Xh:VP _ _ (.str ("8":Str))) (Xl (Xh:VP _ _ (.str ("9":Str))) Xm))))))))))))))))) (fun _=>rfl)) (fun b20=>Xm))) (fun b20 _ h=>g2x (W4 _ _ _ h))) (fun b21=>(Vb (K7 (Q4C 0 (Q2t (V6 (e:=fun _=>(eLi Q3)) (Yz (Xi 1 rfl) (Y1 (Q04 (z:=fun b25=>((eLi Q3) ([("12":Str),("13":Str),b25.2]))) (Q1x (Yz (Xh:VP _ _ (.str ("12":Str))) (Yz (Xh:VP _ _ (.str ("13":Str))) (Y1 (V6 (e:=fun _=>Q3) (Yz (Xh:VP _ _ (.str ("7":Str))) (Y1 (Wz (Yz (Xh:VP _ _ (.int 41)) (Y1 (Y7 (Vn 0 (Y3 (Xh:VP _ _ (.int 600)) Y9)) (Vr _ _ )) (fun r24=>Xm))) (fun r24=>g2x (Yc _ _))) (fun r24=>Xm))) (fun r24 _ h=>g2x (Q11 _ _ _ h))) (fun b25=>Xm))))) (fun _=>rfl)) (fun b25=>Xm))) (fun b25 _ h=>g2x (W4 _ _ _ h))) (fun b27=>Y9))) (fun b27=>Q30 b27.1.1.2 b27.2)) (fun _=>rfl))))))
def Q3s (deck:Dk):Option (Str × Dk):=Q2f (" !\"#$&'()*+,-./0123456789:;<=>?@ABCDEFGHIJKLMNOPQRSTUVWXYZ[\\]^_`abcdefghijklmnopqrstuvwxyz{|}~\n":Str) fun some_1=>((((((Ku ("0123456789 -\n":Str) 6)).bind fun v2=>(Q1e some_1 v2).map fun v4=>(v2,v4))).bind fun b3=>(Wm deck b3.2).map fun v6=>(b3,v6))).bind fun r5=>(some (r5.2.1,r5.2.2))
theorem Qbt (deck:Dk):∀ v,Q3s deck = some v → Q0f [sDk deck] = some ((Q3 v.1),[sDk v.2]):=by
 exact Zt (Q3V (e:=Q3) (v:=(" !\"#$&'()*+,-./0123456789:;<=>?@ABCDEFGHIJKLMNOPQRSTUVWXYZ[\\]^_`abcdefghijklmnopqrstuvwxyz{|}~\n":Str)) (Xh:VP _ _ (.str (" !\"#$&'()*+,-./0123456789:;<=>?@ABCDEFGHIJKLMNOPQRSTUVWXYZ[\\]^_`abcdefghijklmnopqrstuvwxyz{|}~\n":Str))) (fun some_1=>(Vb (K7 (Q4C 0 (Q2t (V6 (e:=fun _=>Q3) (Yz (Xi 1 rfl) (Y1 (Yw (q:=(Ku ("0123456789 -\n":Str) 6)) (e:=Q3) (Xh:VP _ _ (.str ("0123456789 -\n":Str))) (Xh:VP _ _ (.int 6)) (fun _ h=>Q11 _ _ _ h)) (fun v2=>Xm))) (fun v2 _ h=>g2x (Zj _ _ _ h))) (fun b3=>Y9))) (fun b3=>Q35 deck b3.2)) (fun _=>rfl))))
def Q0I (deck:Dk) (line:Str) (way:Int):Option (Str × Dk):=((Q0U line (" ":Str))).bind fun v1=>((W2 deck (W0 v1))).bind fun r3=>(if (decide (way = 0)) then (Wg (Yn v1 none (some r3.1)) (Yn v1 (some (r3.1 + 1)) none)).bind fun v6=>(some v6) else (some v1)).bind fun s5=>(if (decide (way = 1)) then (((Wg (Yn s5 none (some r3.1)) (Yn s5 (some r3.1) (some (r3.1 + 1)))).bind fun v9=>(Wg v9 (Yn s5 (some r3.1) none)).map fun v11=>(v9,v11))).bind fun b10=>(some b10.2) else (some s5)).bind fun s8=>(if (decide (way = 2)) then (((Wg (Yn s8 none (some r3.1)) ((Yn s8 (some r3.1) (some (r3.1 + 2))).reverse)).bind fun v14=>(Wg v14 (Yn s8 (some (r3.1 + 2)) none)).map fun v16=>(v14,v16))).bind fun b15=>(some b15.2) else (some s8)).bind fun s13=>(if (decide (way = 3)) then ((((((Q5b r3.2)).bind fun r19=>(Wg (Yn s13 none (some r3.1)) ([r19.1])).map fun v21=>(r19,v21))).bind fun b20=>(Wg b20.2 (Yn s13 (some (r3.1 + 1)) none)).map fun v23=>(b20,v23))).bind fun b22=>(some (b22.1.1.2,b22.2)) else (some (r3.2,s13))).bind fun s18=>((Q1V (" ":Str) s18.2)).bind fun v25=>(some (v25,s18.1))
theorem Q8a (deck:Dk) (line:Str) (way:Int):∀ v,Q0I deck line way = some v → Kz [sDk deck,.fz (Q3 line),.fz (Q0 way)] = some ((Q3 v.1),[sDk v.2,.fz (Q3 line),.fz (Q0 way)]):=by
 exact Zt (Xz (δ':=[sDk deck,.fz (Q3 line),.fz (Q0 way),.no,.no]) (Vk (Yw (q:=(Q0U line (" ":Str))) (e:=(eLi Q3)) (Xi 1 rfl) (Xh:VP _ _ (.str (" ":Str))) (fun _ h=>Q5R _ _ _ h)) (fun v1=>(Xz (δ':=[sDk deck,.fz (Q3 line),.fz (Q0 way),.fz ((eLi Q3) v1),.no]) (Vk (Y7 (Vn 0 (Y3 (Q0q (Xl (Xi 3 rfl) Xm) (Kr _)) Y9)) (Vr _ _ )) (fun r3=>(Xz (δ':=[sDk r3.2,.fz (Q3 line),.fz (Q0 way),.fz ((eLi Q3) v1),.fz (Q0 r3.1)]) (Q1g (st:=fun s5=>[sDk r3.2,.fz (Q3 line),.fz (Q0 way),.fz ((eLi Q3) s5),.fz (Q0 r3.1)]) (Q3G (Kt (Yo (Xi 2 rfl) (Xh:VP _ _ (.int 0)) (Q1I gI _ _))) (Xz (δ':=[sDk r3.2,.fz (Q3 line),.fz (Q0 way),.fz ((eLi Q3) v1),.fz (Q0 r3.1)]) (Vk (Yw (q:=Wg (Yn v1 none (some r3.1)) (Yn v1 (some (r3.1 + 1)) none)) (e:=(eLi Q3)) (Q0d (Xi 3 rfl) Vc (Yq (Xi 4 rfl)) (K3 _ _ _)) (Q0d (Xi 3 rfl) (Yq (Yo (Xi 4 rfl) (Xh:VP _ _ (.int 1)) (Yc _ _))) Vc (K3 _ _ _)) (fun _ h=>W4 _ _ _ h)) (fun v6=>(Zm (v:=v6) rfl)))) (Zm (v:=v1) rfl)) (fun s5=>(Xz (δ':=[sDk r3.2,.fz (Q3 line),.fz (Q0 way),.fz ((eLi Q3) s5),.fz (Q0 r3.1)]) (Q1g (st:=fun s8=>[sDk r3.2,.fz (Q3 line),.fz (Q0 way),.fz ((eLi Q3) s8),.fz (Q0 r3.1)]) (Q3G (Kt (Yo (Xi 2 rfl) (Xh:VP _ _ (.int 1)) (Q1I gI _ _))) (Xz (δ':=[sDk r3.2,.fz (Q3 line),.fz (Q0 way),.fz ((eLi Q3) s5),.fz (Q0 r3.1)]) (Vk (V6 (e:=fun _=>(eLi Q3)) (Y1 (Yw (q:=Wg (Yn s5 none (some r3.1)) (Yn s5 (some r3.1) (some (r3.1 + 1)))) (e:=(eLi Q3)) (Q0d (Xi 3 rfl) Vc (Yq (Xi 4 rfl)) (K3 _ _ _)) (Q0d (Xi 3 rfl) (Yq (Xi 4 rfl)) (Yq (Yo (Xi 4 rfl) (Xh:VP _ _ (.int 1)) (Yc _ _))) (K3 _ _ _)) (fun _ h=>W4 _ _ _ h)) (fun v9=>(Xl (Q0d (Xi 3 rfl) (Yq (Xi 4 rfl)) Vc (K3 _ _ _)) Xm))) (fun v9 _ h=>g2x (W4 _ _ _ h))) (fun b10=>(Zm (v:=b10.2) rfl)))) (Zm (v:=s5) rfl)) (fun s8=>(Xz (δ':=[sDk r3.2,.fz (Q3 line),.fz (Q0 way),.fz ((eLi Q3) s8),.fz (Q0 r3.1)]) (Q1g (st:=fun s13=>[sDk r3.2,.fz (Q3 line),.fz (Q0 way),.fz ((eLi Q3) s13),.fz (Q0 r3.1)]) (Q3G (Kt (Yo (Xi 2 rfl) (Xh:VP _ _ (.int 2)) (Q1I gI _ _))) (Xz (δ':=[sDk r3.2,.fz (Q3 line),.fz (Q0 way),.fz ((eLi Q3) s8),.fz (Q0 r3.1)]) (Vk (V6 (e:=fun _=>(eLi Q3)) (Y1 (Yw (q:=Wg (Yn s8 none (some r3.1)) ((Yn s8 (some r3.1) (some (r3.1 + 2))).reverse)) (e:=(eLi Q3)) (Q0d (Xi 3 rfl) Vc (Yq (Xi 4 rfl)) (K3 _ _ _)) (Q88 (Q0d (Xi 3 rfl) (Yq (Xi 4 rfl)) (Yq (Yo (Xi 4 rfl) (Xh:VP _ _ (.int 2)) (Yc _ _))) (K3 _ _ _)) (Qd9 _)) (fun _ h=>W4 _ _ _ h)) (fun v14=>(Xl (Q0d (Xi 3 rfl) (Yq (Yo (Xi 4 rfl) (Xh:VP _ _ (.int 2)) (Yc _ _))) Vc (K3 _ _ _)) Xm))) (fun v14 _ h=>g2x (W4 _ _ _ h))) (fun b15=>(Zm (v:=b15.2) rfl)))) (Zm (v:=s8) rfl)) (fun s13=>(Xz (δ':=[sDk r3.2,.fz (Q3 line),.fz (Q0 way),.fz ((eLi Q3) s13),.fz (Q0 r3.1)]) (Q1g (st:=fun s18=>[sDk s18.1,.fz (Q3 line),.fz (Q0 way),.fz ((eLi Q3) s18.2),.fz (Q0 r3.1)]) (Q3G (Kt (Yo (Xi 2 rfl) (Xh:VP _ _ (.int 3)) (Q1I gI _ _))) (Xz (δ':=[sDk r3.2,.fz (Q3 line),.fz (Q0 way),.fz ((eLi Q3) s13),.fz (Q0 r3.1)]) (Vk (V6 (e:=fun _=>(eLi Q3)) (Y1 (V6 (e:=fun _=>(eLi Q3)) (Yz (Q0d (Xi 3 rfl) Vc (Yq (Xi 4 rfl)) (K3 _ _ _)) (Y1 (Q04 (z:=fun r19=>((eLi Q3) ([r19.1]))) (Q1x (Y1 (Y7 (Vn 0 Y9) (Qeo _ )) (fun r19=>Xm))) (fun _=>rfl)) (fun r19=>Xm))) (fun r19 _ h=>g2x (W4 _ _ _ h))) (fun b20=>(Xl (Q0d (Xi 3 rfl) (Yq (Yo (Xi 4 rfl) (Xh:VP _ _ (.int 1)) (Yc _ _))) Vc (K3 _ _ _)) Xm))) (fun b20 _ h=>g2x (W4 _ _ _ h))) (fun b22=>(Zm (v:=(b22.1.1.2,b22.2)) rfl)))) (Zm (v:=(r3.2,s13)) rfl)) (fun s18=>(Xz (δ':=[sDk s18.1,.fz (Q3 line),.fz (Q0 way),.fz ((eLi Q3) s18.2),.fz (Q0 r3.1)]) (Vb (Yw (q:=(Q1V (" ":Str) s18.2)) (e:=Q3) (Xh:VP _ _ (.str (" ":Str))) (Xi 3 rfl) (fun _ h=>Q20 _ _ _ h)) (fun _=>rfl)))))))))))))))))))))
def Q3K (deck:Dk) (text:Str):Option (Str × Dk):=((W2 deck 14)).bind fun r1=>((Q0U text ("\n":Str))).bind fun v3=>((((W2 r1.2 (W0 v3))).bind fun r5=>((((Q5z text)).bind fun v6=>(W2 r5.2 (v6 + 1)).map fun v8=>(v6,v8))).map fun r7=>(r5,r7))).bind fun b9=>if (decide (r1.1 < 3)) then (((((((((Q0v text none (some b9.2.2.1)).bind fun v10=>((((((Q3s b9.2.2.2)).bind fun r11=>((Q3s r11.2)).map fun r12=>(r11,r12))).bind fun b13=>((atI ([b13.1.1,b13.2.1,("":Str)]) r1.1)).map fun v15=>(b13,v15))).map fun b14=>(v10,b14))).bind fun b16=>(Q1e b16.1 b16.2.2).map fun v18=>(b16,v18))).bind fun b17=>(Q0v text (some (b9.2.2.1 + (boI (decide (0 < r1.1))))) none).map fun v19=>(b17,v19))).bind fun b20=>(Q1e b20.1.2 b20.2).map fun v22=>(b20,v22))).bind fun b21=>(some (b21.2,b21.1.1.1.2.1.2.2)) else if (decide (r1.1 < 9)) then ((((((((((((atI v3 b9.1.1)).bind fun v23=>((atI ([0,1,2,3,3,3]) (r1.1 - 3))).map fun v24=>(v23,v24))).bind fun b25=>(Q0I b9.2.2.2 b25.1 b25.2).map fun v27=>(b25,v27))).bind fun r26=>(Wg (Yn v3 none (some b9.1.1)) ([r26.2.1])).map fun v29=>(r26,v29))).bind fun b28=>(Wg b28.2 (Yn v3 (some (b9.1.1 + 1)) none)).map fun v31=>(b28,v31))).bind fun b30=>((Q1V ("\n":Str) b30.2)).map fun v33=>(b30,v33))).bind fun b32=>(some (b32.2,b32.1.1.1.2.2)) else if (decide (r1.1 = 9)) then ((((((((((((((W2 b9.2.2.2 8)).bind fun r34=>((QdF (2 + r34.1))).map fun v36=>(r34,v36))).bind fun b35=>(Q1e b35.2 (" ":Str)).map fun v38=>(b35,v38))).bind fun b37=>((((W2 b37.1.1.2 12)).bind fun r39=>((QdF (2 + r39.1))).map fun v41=>(r39,v41))).map fun b40=>(b37,b40))).bind fun b42=>(Q1e b42.1.2 b42.2.2).map fun v44=>(b42,v44))).bind fun b43=>(Wg ([b43.2]) (Yn v3 (some 1) none)).map fun v46=>(b43,v46))).bind fun b45=>((Q1V ("\n":Str) b45.2)).map fun v48=>(b45,v48))).bind fun b47=>(some (b47.2,b47.1.1.1.2.1.2)) else if (decide (r1.1 = 10)) then (((Wg (Yn v3 none (some b9.1.1)) (Yn v3 (some (b9.1.1 + 1)) none)).bind fun v49=>((Q1V ("\n":Str) v49)).map fun v51=>(v49,v51))).bind fun b50=>(some (b50.2,b9.2.2.2)) else if (decide (r1.1 = 11)) then (((((Wg (Yn v3 none (some b9.1.1)) (Yn v3 (some b9.1.1) (some (b9.1.1 + 1)))).bind fun v52=>(Wg v52 (Yn v3 (some b9.1.1) none)).map fun v54=>(v52,v54))).bind fun b53=>((Q1V ("\n":Str) b53.2)).map fun v56=>(b53,v56))).bind fun b55=>(some (b55.2,b9.2.2.2)) else if (decide (r1.1 = 12)) then (((((Wg (Yn v3 none (some b9.1.1)) ((Yn v3 (some b9.1.1) (some (b9.1.1 + 2))).reverse)).bind fun v57=>(Wg v57 (Yn v3 (some (b9.1.1 + 2)) none)).map fun v59=>(v57,v59))).bind fun b58=>((Q1V ("\n":Str) b58.2)).map fun v61=>(b58,v61))).bind fun b60=>(some (b60.2,b9.2.2.2)) else (((Q1e (" ":Str) text).bind fun v62=>(((Q1e text (" ":Str)).bind fun v63=>(((Q1e ("\n":Str) text).bind fun v64=>(((Q1e text ("\n":Str)).bind fun v65=>((Q6B "\n" " " text)).map fun v66=>(v65,v66))).map fun b67=>(v64,b67))).map fun b68=>(v63,b68))).map fun b69=>(v62,b69))).bind fun b70=>Q2f ([b70.1,b70.2.1,b70.2.2.1,b70.2.2.2.1,b70.2.2.2.2]) fun some_71=>((((((Q6B " " "  " text)).bind fun v72=>(Wg some_71 ([v72])).map fun v74=>(v72,v74))).bind fun b73=>(Wl b9.2.2.2 b73.2).map fun v76=>(b73,v76))).bind fun r75=>(some (r75.2.1,r75.2.2))
theorem QaF (deck:Dk) (text:Str):∀ v,Q3K deck text = some v → Q0o [sDk deck,.fz (Q3 text)] = some ((Q3 v.1),[sDk v.2,.fz (Q3 text)]):=by
 exact Zt (Xz (δ':=[sDk deck,.fz (Q3 text),.no,.no,.no,.no,.no]) (Vk (Y7 (Vn 0 (Y3 (Xh:VP _ _ (.int 14)) Y9)) (Vr _ _ )) (fun r1=>(Xz (δ':=[sDk r1.2,.fz (Q3 text),.fz (Q0 r1.1),.no,.no,.no,.no]) (Vk (Yw (q:=(Q0U text ("\n":Str))) (e:=(eLi Q3)) (Xi 1 rfl) (Xh:VP _ _ (.str ("\n":Str))) (fun _ h=>Q5R _ _ _ h)) (fun v3=>(Xz (δ':=[sDk r1.2,.fz (Q3 text),.fz (Q0 r1.1),.fz ((eLi Q3) v3),.no,.no,.no]) (Q84 (a:=fun b9=>(Q0 b9.1.1)) (b:=fun b9=>(Q0 b9.2.2.1)) (Wf (Y7 (Vn 0 (Y3 (Q0q (Xl (Xi 3 rfl) Xm) (Kr _)) Y9)) (Vr _ _ )) (fun r5=>(Y1 (K7 (Q4C 0 (Q2t (Wz (Y1 (Q4k (q:=(Q5z text)) (e:=Q0) (Xl (Xi 1 rfl) Xm) (fun _ h=>Q96 _ _ h)) (fun v6=>(Xl (Xh:VP _ _ (.int 1)) Xm))) (fun v6=>g2x (Yc _ _))) (fun v6=>Y9))) (fun v6=>Vr r5.2 (v6 + 1))) (fun r7=>Xm)))) (fun _=>rfl) (fun b9=>(Xz (δ':=[sDk b9.2.2.2,.fz (Q3 text),.fz (Q0 r1.1),.fz ((eLi Q3) v3),.fz (Q0 b9.1.1),.fz (Q0 b9.2.2.1),.no]) (Q4o (Kt (Yo (Xi 2 rfl) (Xh:VP _ _ (.int 3)) (Q7r _ _))) (Vt (Xz (δ':=[sDk b9.2.2.2,.fz (Q3 text),.fz (Q0 r1.1),.fz ((eLi Q3) v3),.fz (Q0 b9.1.1),.fz (Q0 b9.2.2.1),.no]) (Vb (V6 (e:=fun _=>Q3) (Wf (V6 (e:=fun _=>Q3) (Wf (Q6C (q:=Q0v text none (some b9.2.2.1)) (e:=Q3) (Xi 1 rfl) Vc (Yq (Xi 5 rfl)) (fun _ h=>Q6D _ _ _ _ h)) (fun v10=>(Y1 (V6 (e:=fun _=>Q3) (Y1 (Q04 (z:=fun b13=>((eLi Q3) ([b13.1.1,b13.2.1,("":Str)]))) (Q1x (Wf (Y7 (Vn 0 Y9) (Qbt _ )) (fun r11=>(Y1 (Y7 (Vn 0 Y9) (Qbt _ )) (fun r12=>(Xl (Xh:VP _ _ (.str ("":Str))) Xm)))))) (fun _=>rfl)) (fun b13=>(Xl (Xi 2 rfl) Xm))) (fun b13 _ h=>g2x (K4 _ _ _ h))) (fun b14=>Xm)))) (fun b16 _ h=>g2x (Zj _ _ _ h))) (fun b17=>(Y1 (Q6C (q:=Q0v text (some (b9.2.2.1 + (boI (decide (0 < r1.1))))) none) (e:=Q3) (Xi 1 rfl) (Yq (Yo (Xi 5 rfl) (Q0q (Xl (Yo (Xi 2 rfl) (Xh:VP _ _ (.int 0)) (Qgy _ _)) Xm) (Qd7 _)) (Yc _ _))) Vc (fun _ h=>Q6D _ _ _ _ h)) (fun v19=>Xm)))) (fun b20 _ h=>g2x (Zj _ _ _ h))) (fun _=>rfl)))) (Wb (Xz (δ':=[sDk b9.2.2.2,.fz (Q3 text),.fz (Q0 r1.1),.fz ((eLi Q3) v3),.fz (Q0 b9.1.1),.fz (Q0 b9.2.2.1),.no]) (Q4o (Kt (Yo (Xi 2 rfl) (Xh:VP _ _ (.int 9)) (Q7r _ _))) (Vt (Xz (δ':=[sDk b9.2.2.2,.fz (Q3 text),.fz (Q0 r1.1),.fz ((eLi Q3) v3),.fz (Q0 b9.1.1),.fz (Q0 b9.2.2.1),.no]) (Vb (V6 (e:=fun _=>Q3) (Yz (Xh:VP _ _ (.str ("\n":Str))) (Y1 (V6 (e:=fun _=>(eLi Q3)) (Y1 (V6 (e:=fun _=>(eLi Q3)) (Yz (Q0d (Xi 3 rfl) Vc (Yq (Xi 4 rfl)) (K3 _ _ _)) (Y1 (Q04 (z:=fun r26=>((eLi Q3) ([r26.2.1]))) (Q1x (Y1 (K7 (Q4C 0 (Qbp (Yw (q:=(atI v3 b9.1.1)) (e:=Q3) (Xi 3 rfl) (Xi 4 rfl) (fun _ h=>K4 _ _ _ h)) (fun v23=>(Q2t (Yw (q:=(atI ([0,1,2,3,3,3]) (r1.1 - 3))) (e:=Q0) ((W3 (Xl (Xh:VP _ _ (.int 0)) (Xl (Xh:VP _ _ (.int 1)) (Xl (Xh:VP _ _ (.int 2)) (Xl (Xh:VP _ _ (.int 3)) (Xl (Xh:VP _ _ (.int 3)) (Xl (Xh:VP _ _ (.int 3)) Xm))))))):VP _ _ (Y2 ([0,1,2,3,3,3]))) (Yo (Xi 2 rfl) (Xh:VP _ _ (.int 3)) (Vz _ _)) (fun _ h=>K4 _ _ _ h)) (fun v24=>Y9))))) (fun b25=>Q8a b9.2.2.2 b25.1 b25.2)) (fun r26=>Xm))) (fun _=>rfl)) (fun r26=>Xm))) (fun r26 _ h=>g2x (W4 _ _ _ h))) (fun b28=>(Xl (Q0d (Xi 3 rfl) (Yq (Yo (Xi 4 rfl) (Xh:VP _ _ (.int 1)) (Yc _ _))) Vc (K3 _ _ _)) Xm))) (fun b28 _ h=>g2x (W4 _ _ _ h))) (fun b30=>Xm))) (fun b30 _ h=>g2x (Q20 _ _ _ h))) (fun _=>rfl)))) (Wb (Xz (δ':=[sDk b9.2.2.2,.fz (Q3 text),.fz (Q0 r1.1),.fz ((eLi Q3) v3),.fz (Q0 b9.1.1),.fz (Q0 b9.2.2.1),.no]) (Q4o (Kt (Yo (Xi 2 rfl) (Xh:VP _ _ (.int 9)) (Q1I gI _ _))) (Vt (Xz (δ':=[sDk b9.2.2.2,.fz (Q3 text),.fz (Q0 r1.1),.fz ((eLi Q3) v3),.fz (Q0 b9.1.1),.fz (Q0 b9.2.2.1),.no]) (Vb (V6 (e:=fun _=>Q3) (Yz (Xh:VP _ _ (.str ("\n":Str))) (Y1 (V6 (e:=fun _=>(eLi Q3)) (Y1 (Q04 (z:=fun b43=>((eLi Q3) ([b43.2]))) (Q1x (Y1 (V6 (e:=fun _=>Q3) (Wf (V6 (e:=fun _=>Q3) (Y1 (Q8u (e:=fun _=>Q3) (Y1 (Wz (Yz (Xh:VP _ _ (.int 2)) (Y1 (Y7 (Vn 0 (Y3 (Xh:VP _ _ (.int 8)) Y9)) (Vr _ _ )) (fun r34=>Xm))) (fun r34=>g2x (Yc _ _))) (fun r34=>Xm)) (fun r34 _ h=>QfL _ _ h)) (fun b35=>(Xl (Xh:VP _ _ (.str (" ":Str))) Xm))) (fun b35 _ h=>g2x (Zj _ _ _ h))) (fun b37=>(Y1 (Q8u (e:=fun _=>Q3) (Y1 (Wz (Yz (Xh:VP _ _ (.int 2)) (Y1 (Y7 (Vn 0 (Y3 (Xh:VP _ _ (.int 12)) Y9)) (Vr _ _ )) (fun r39=>Xm))) (fun r39=>g2x (Yc _ _))) (fun r39=>Xm)) (fun r39 _ h=>QfL _ _ h)) (fun b40=>Xm)))) (fun b42 _ h=>g2x (Zj _ _ _ h))) (fun b43=>Xm))) (fun _=>rfl)) (fun b43=>(Xl (Q0d (Xi 3 rfl) (Yq (Xh:VP _ _ (.int 1))) Vc (K3 _ _ _)) Xm))) (fun b43 _ h=>g2x (W4 _ _ _ h))) (fun b45=>Xm))) (fun b45 _ h=>g2x (Q20 _ _ _ h))) (fun _=>rfl)))) (Wb (Xz (δ':=[sDk b9.2.2.2,.fz (Q3 text),.fz (Q0 r1.1),.fz ((eLi Q3) v3),.fz (Q0 b9.1.1),.fz (Q0 b9.2.2.1),.no]) (Q4o (Kt (Yo (Xi 2 rfl) (Xh:VP _ _ (.int 10)) (Q1I gI _ _))) (Vt (Xz (δ':=[sDk b9.2.2.2,.fz (Q3 text),.fz (Q0 r1.1),.fz ((eLi Q3) v3),.fz (Q0 b9.1.1),.fz (Q0 b9.2.2.1),.no]) (Vb (V6 (e:=fun _=>Q3) (Yz (Xh:VP _ _ (.str ("\n":Str))) (Y1 (Yw (q:=Wg (Yn v3 none (some b9.1.1)) (Yn v3 (some (b9.1.1 + 1)) none)) (e:=(eLi Q3)) (Q0d (Xi 3 rfl) Vc (Yq (Xi 4 rfl)) (K3 _ _ _)) (Q0d (Xi 3 rfl) (Yq (Yo (Xi 4 rfl) (Xh:VP _ _ (.int 1)) (Yc _ _))) Vc (K3 _ _ _)) (fun _ h=>W4 _ _ _ h)) (fun v49=>Xm))) (fun v49 _ h=>g2x (Q20 _ _ _ h))) (fun _=>rfl)))) (Wb (Xz (δ':=[sDk b9.2.2.2,.fz (Q3 text),.fz (Q0 r1.1),.fz ((eLi Q3) v3),.fz (Q0 b9.1.1),.fz (Q0 b9.2.2.1),.no]) (Q4o (Kt (Yo (Xi 2 rfl) (Xh:VP _ _ (.int 11)) (Q1I gI _ _))) (Vt (Xz (δ':=[sDk b9.2.2.2,.fz (Q3 text),.fz (Q0 r1.1),.fz ((eLi Q3) v3),.fz (Q0 b9.1.1),.fz (Q0 b9.2.2.1),.no]) (Vb (V6 (e:=fun _=>Q3) (Yz (Xh:VP _ _ (.str ("\n":Str))) (Y1 (V6 (e:=fun _=>(eLi Q3)) (Y1 (Yw (q:=Wg (Yn v3 none (some b9.1.1)) (Yn v3 (some b9.1.1) (some (b9.1.1 + 1)))) (e:=(eLi Q3)) (Q0d (Xi 3 rfl) Vc (Yq (Xi 4 rfl)) (K3 _ _ _)) (Q0d (Xi 3 rfl) (Yq (Xi 4 rfl)) (Yq (Yo (Xi 4 rfl) (Xh:VP _ _ (.int 1)) (Yc _ _))) (K3 _ _ _)) (fun _ h=>W4 _ _ _ h)) (fun v52=>(Xl (Q0d (Xi 3 rfl) (Yq (Xi 4 rfl)) Vc (K3 _ _ _)) Xm))) (fun v52 _ h=>g2x (W4 _ _ _ h))) (fun b53=>Xm))) (fun b53 _ h=>g2x (Q20 _ _ _ h))) (fun _=>rfl)))) (Wb (Xz (δ':=[sDk b9.2.2.2,.fz (Q3 text),.fz (Q0 r1.1),.fz ((eLi Q3) v3),.fz (Q0 b9.1.1),.fz (Q0 b9.2.2.1),.no]) (Q4o (Kt (Yo (Xi 2 rfl) (Xh:VP _ _ (.int 12)) (Q1I gI _ _))) (Vt (Xz (δ':=[sDk b9.2.2.2,.fz (Q3 text),.fz (Q0 r1.1),.fz ((eLi Q3) v3),.fz (Q0 b9.1.1),.fz (Q0 b9.2.2.1),.no]) (Vb (V6 (e:=fun _=>Q3) (Yz (Xh:VP _ _ (.str ("\n":Str))) (Y1 (V6 (e:=fun _=>(eLi Q3)) (Y1 (Yw (q:=Wg (Yn v3 none (some b9.1.1)) ((Yn v3 (some b9.1.1) (some (b9.1.1 + 2))).reverse)) (e:=(eLi Q3)) (Q0d (Xi 3 rfl) Vc (Yq (Xi 4 rfl)) (K3 _ _ _)) (Q88 (Q0d (Xi 3 rfl) (Yq (Xi 4 rfl)) (Yq (Yo (Xi 4 rfl) (Xh:VP _ _ (.int 2)) (Yc _ _))) (K3 _ _ _)) (Qd9 _)) (fun _ h=>W4 _ _ _ h)) (fun v57=>(Xl (Q0d (Xi 3 rfl) (Yq (Yo (Xi 4 rfl) (Xh:VP _ _ (.int 2)) (Yc _ _))) Vc (K3 _ _ _)) Xm))) (fun v57 _ h=>g2x (W4 _ _ _ h))) (fun b58=>Xm))) (fun b58 _ h=>g2x (Q20 _ _ _ h))) (fun _=>rfl)))) (Wb (Xz (δ':=[sDk b9.2.2.2,.fz (Q3 text),.fz (Q0 r1.1),.fz ((eLi Q3) v3),.fz (Q0 b9.1.1),.fz (Q0 b9.2.2.1),.no]) (Q2E (e:=(eLi Q3)) (Q04 (z:=fun b70=>((eLi Q3) ([b70.1,b70.2.1,b70.2.2.1,b70.2.2.2.1,b70.2.2.2.2]))) (Q1x (Wf (Yw (q:=Q1e (" ":Str) text) (e:=Q3) (Xh:VP _ _ (.str (" ":Str))) (Xi 1 rfl) (fun _ h=>Zj _ _ _ h)) (fun v62=>(Wf (Yw (q:=Q1e text (" ":Str)) (e:=Q3) (Xi 1 rfl) (Xh:VP _ _ (.str (" ":Str))) (fun _ h=>Zj _ _ _ h)) (fun v63=>(Wf (Yw (q:=Q1e ("\n":Str) text) (e:=Q3) (Xh:VP _ _ (.str ("\n":Str))) (Xi 1 rfl) (fun _ h=>Zj _ _ _ h)) (fun v64=>(Wf (Yw (q:=Q1e text ("\n":Str)) (e:=Q3) (Xi 1 rfl) (Xh:VP _ _ (.str ("\n":Str))) (fun _ h=>Zj _ _ _ h)) (fun v65=>(Y1 (Qik (q:=(Q6B "\n" " " text)) (e:=Q3) (Xi 1 rfl) (fun _ h=>QcV _ _ _ _ h)) (fun v66=>Xm))))))))))) (fun _=>rfl)) (fun _=>rfl) (fun b70 some_71=>(Xz (δ':=[sDk b9.2.2.2,.fz (Q3 text),.fz (Q0 r1.1),.fz ((eLi Q3) v3),.fz (Q0 b9.1.1),.fz (Q0 b9.2.2.1),.fz ((eLi Q3) some_71)]) (Vb (K7 (Q4C 0 (Q2t (V6 (e:=fun _=>(eLi Q3)) (Yz (Xi 6 rfl) (Y1 (Q04 (z:=fun (v72:Str)=>((eLi Q3) ([v72]))) (Q1x (Y1 (Qik (q:=(Q6B " " "  " text)) (e:=Q3) (Xi 1 rfl) (fun _ h=>QcV _ _ _ _ h)) (fun v72=>Xm))) (fun _=>rfl)) (fun v72=>Xm))) (fun v72 _ h=>g2x (W4 _ _ _ h))) (fun b73=>Y9))) (fun b73=>Q34 b9.2.2.2 b73.2)) (fun _=>rfl)))))))))))))))))))))))))))))))))
def Q1i (deck:Dk):Option (Str × Dk):=(((((Q7s ([0]) 111).bind fun v1=>(Q39 (2,3,v1)).map fun v3=>(v1,v3))).bind fun r2=>((((W2 deck 800)).bind fun r4=>((Ku ("1":Str) (4290 + r4.1))).map fun v6=>(r4,v6))).map fun b5=>(r2,b5))).bind fun b7=>((W2 b7.2.1.2 111)).bind fun r8=>Q2f (4 + (2 * r8.1)) fun at_9=>(((((((((((Q0v b7.1.2 none (some at_9)).bind fun v10=>((W5 r8.2 ([("":Str),("-":Str)]))).map fun r11=>(v10,r11))).bind fun b12=>(Q1e b12.1 b12.2.1).map fun v14=>(b12,v14))).bind fun b13=>(Q1e b13.2 b7.2.2).map fun v16=>(b13,v16))).bind fun b15=>(Q0v b7.1.2 (some (at_9 + 1)) none).map fun v17=>(b15,v17))).bind fun b18=>(Q1e b18.1.2 b18.2).map fun v20=>(b18,v20))).bind fun b19=>(some (b19.2,b19.1.1.1.1.2.2))
theorem Qa9 (deck:Dk):∀ v,Q1i deck = some v → Z8 [sDk deck] = some ((Q3 v.1),[sDk v.2]):=by
 exact Zt (Q84 (a:=fun b7=>(Q3 b7.1.2)) (b:=fun b7=>(Q3 b7.2.2)) (Wf (K7 (Q2t (Q04 (z:=fun (v1:(List Int))=>(Q0c (2,3,v1))) (Q4G (Yz (Xh:VP _ _ (.int 2)) (Yz (Xh:VP _ _ (.int 3)) (Y1 (Yw (q:=Q7s ([0]) 111) (e:=(eTu Q0)) (Qic ((Q02 (Xl (Xh:VP _ _ (.int 0)) Xm)):VP _ _ ((eP1 Q0) 0)) ((QhP (fun _=>rfl)) 0):VP _ _ ((eTu Q0) ([0]))) (Xh:VP _ _ (.int 111)) (fun _ h=>QeP _ _ _ h)) (fun v1=>Xm))))) (fun _=>rfl)) (fun v1=>Y9)) (fun v1=>Qap (2,3,v1))) (fun r2=>(Y1 (V6 (e:=fun _=>Q3) (Yz (Xh:VP _ _ (.str ("1":Str))) (Y1 (Wz (Yz (Xh:VP _ _ (.int 4290)) (Y1 (Y7 (Vn 0 (Y3 (Xh:VP _ _ (.int 800)) Y9)) (Vr _ _ )) (fun r4=>Xm))) (fun r4=>g2x (Yc _ _))) (fun r4=>Xm))) (fun r4 _ h=>g2x (Q11 _ _ _ h))) (fun b5=>Xm)))) (fun _=>rfl) (fun b7=>(Q2E (e:=Q0) (Wz (Yz (Xh:VP _ _ (.int 4)) (Y1 (Wz (Yz (Xh:VP _ _ (.int 2)) (Y1 (Y7 (Vn 0 (Y3 (Xh:VP _ _ (.int 111)) Y9)) (Vr _ _ )) (fun r8=>Xm))) (fun r8=>g2x (Vq _ _ rfl))) (fun r8=>Xm))) (fun r8=>g2x (Yc _ _))) (fun _=>rfl) (fun r8 at_9=>(Vb (V6 (e:=fun _=>Q3) (Wf (V6 (e:=fun _=>Q3) (Y1 (V6 (e:=fun _=>Q3) (Wf (Q6C (q:=Q0v b7.1.2 none (some at_9)) (e:=Q3) (Xi 1 rfl) Vc (Yq (Xi 3 rfl)) (fun _ h=>Q6D _ _ _ _ h)) (fun v10=>(Y1 (Y7 (Vn 0 (Y3 ((W3 (Xl (Xh:VP _ _ (.str ("":Str))) (Xl (Xh:VP _ _ (.str ("-":Str))) Xm))):VP _ _ ((eLi Q3) ([("":Str),("-":Str)]))) Y9)) (Q1E _ _ )) (fun r11=>Xm)))) (fun b12 _ h=>g2x (Zj _ _ _ h))) (fun b13=>(Xl (Xi 2 rfl) Xm))) (fun b13 _ h=>g2x (Zj _ _ _ h))) (fun b15=>(Y1 (Q6C (q:=Q0v b7.1.2 (some (at_9 + 1)) none) (e:=Q3) (Xi 1 rfl) (Yq (Yo (Xi 3 rfl) (Xh:VP _ _ (.int 1)) (Yc _ _))) Vc (fun _ h=>Q6D _ _ _ _ h)) (fun v17=>Xm)))) (fun b18 _ h=>g2x (Zj _ _ _ h))) (fun _=>rfl))))))
def Kp (word:Str):Option D:=(((Q0v word none (some 1)).bind fun v1=>if (decide (v1 = ("-":Str))) then Q0v word (some 1) none else (some word))).bind fun b5=>((if (decide (b5 = ("":Str))) then some true else (((Q5z b5)).bind fun v7=>if (decide (40 < v7)) then some true else (((K5 (chN b5) (Q1F (fun x8=>(Q4T (Q3 x8) (Q3 ("0123456789":Str)))) (fun x8=>(some x8)) (chN b5)))).map fun l10=>(!decide (l10 = ([]))))))).bind fun b14=>if b14 then (some .none) else ((((((sIx b5 0)).bind fun v15=>if (decide (v15 = ("0":Str))) then (some (!decide (word = ("0":Str)))) else some false)).bind fun b17=>if b17 then (some .none) else (((Q0t word)).map fun v18=>(Q0 v18)))).bind fun b21=>(some b21)
theorem Q8c (word:Str):∀ v,Kp word = some v → Ky [.fz (Q3 word)] = some (v,[.fz (Q3 word)]):=by
 exact Zt (Vk (QcZ (Q0b (Wz (Y1 (Q6C (q:=Q0v word none (some 1)) (e:=Q3) (Xi 0 rfl) Vc (Yq (Xh:VP _ _ (.int 1))) (fun _ h=>Q6D _ _ _ _ h)) (fun v1=>(Xl (Xh:VP _ _ (.str ("-":Str))) Xm))) (fun v1=>g2x (Q1I gS _ _))) (fun _=>rfl)) (fun _=>rfl) (fun v1=>(QaC (r':=fun (c3:Str)=>((Q3 c3),[.fz (Q3 word),.no,.no])) (Q6C (q:=Q0v word (some 1) none) (e:=Q3) (Xi 0 rfl) (Yq (Xh:VP _ _ (.int 1))) Vc (fun _ h=>Q6D _ _ _ _ h)) (fun _=>rfl))) (fun v1=>(Q6z (v:=word) (r':=fun (c4:Str)=>((Q3 c4),[.fz (Q3 word),.no,.no])) (Xi 0 rfl) rfl))) (fun b5=>(Xz (δ':=[.fz (Q3 word),.fz (Q3 b5),.no]) (Q25 (Q68 (v:=true) (Kt (Yo (Xi 1 rfl) (Xh:VP _ _ (.str ("":Str))) (Q1I gS _ _))) (Q7J (r':=fun (c13:Bool)=>(c13,[.fz (Q3 word),.fz (Q3 b5),.no])) (Q4Q (Q0b (Wz (Y1 (Q4k (q:=(Q5z b5)) (e:=Q0) (Xl (Xi 1 rfl) Xm) (fun _ h=>Q96 _ _ h)) (fun v7=>(Xl (Xh:VP _ _ (.int 40)) Xm))) (fun v7=>g2x (Qgy _ _))) (fun _=>rfl)) (fun _=>rfl) (fun v7=>(Q0w (r':=fun (c11:Bool)=>(c11,[.fz (Q3 word),.fz (Q3 b5),.no])) (Q0b (Wz (Y1 (Q5X (e:=Q3) (e':=Q3) (Q2V (Xi 1 rfl) (Qig _)) (fun x8=>(Vh 2)) (fun x8=>(Q7J (Q0b (Yw (q:=(Q4T (Q3 x8) (Q3 ("0123456789":Str)))) (e:=Qj) (Xi 2 rfl) (Xh:VP _ _ (.str ("0123456789":Str))) (fun _ h=>Qar _ _ h)) (fun _=>rfl)) (fun _=>rfl))) (fun x8=>(Q6z (v:=x8) (Xi 2 rfl) rfl))) (fun l10=>(Xl ((W3 Xm):VP _ _ ((eLi Q3) ([]))) Xm))) (fun l10=>g2x (Q4t (gLi gS) _ _))) (fun _=>rfl)) (fun _=>rfl))) (fun _=>rfl)) (fun _=>rfl)) rfl) (fun _=>rfl) (fun b14=>(Vt (Z1 (Xh:VP _ _ .none) rfl))) (fun b14=>(Wb (Vb (QcZ (Qd6 (Q0b (Wz (Y1 (Yw (q:=(sIx b5 0)) (e:=Q3) (Xi 1 rfl) (Xh:VP _ _ (.int 0)) (fun _ h=>Qg1 _ _ _ h)) (fun v15=>(Xl (Xh:VP _ _ (.str ("0":Str))) Xm))) (fun v15=>g2x (Q1I gS _ _))) (fun _=>rfl)) (fun _=>rfl) (fun v15=>(Qcu (v:=(!decide (word = ("0":Str)))) (r':=fun (c16:Bool)=>(c16,[.fz (Q3 word),.fz (Q3 b5),.no])) (Kt (Yo (Xi 0 rfl) (Xh:VP _ _ (.str ("0":Str))) (Q4t gS _ _))) rfl)) (fun _=>rfl)) (fun _=>rfl) (fun b17=>(Q6z (v:=.none) (r':=fun (c19:D)=>(c19,[.fz (Q3 word),.fz (Q3 b5),.no])) (Xh:VP _ _ .none) rfl)) (fun b17=>(Q1r (r':=fun (c20:D)=>(c20,[.fz (Q3 word),.fz (Q3 b5),.no])) (Q4k (q:=(Q0t word)) (e:=Q0) (Xl (Xi 0 rfl) Xm) (fun _ h=>Qdl _ _ h)) (fun _=>rfl)))) (fun _=>rfl))))))))
def Q2k (text:Str):Option D:=((((Q0U text ("\n":Str))).bind fun v1=>(K5 v1 (mapM (fun x2=>(((((Q0U x2 (" ":Str))).bind fun v3=>(K5 v3 (mapM (fun x4=>(Kp x4)) v3)).map fun v8=>(v3,v8))).map fun l7=>l7.2)) v1)).map fun v11=>(v1,v11))).bind fun l10=>((if (!decide ((W0 l10.2) = 5)) then some true else (((atI l10.2 0)).bind fun v13=>if (!decide ((W0 v13) = 2)) then some true else (((((K5 l10.2 (Q1F (fun x14=>(inD .none ((eLi eD) x14))) (fun x14=>(some x14)) l10.2))).bind fun l16=>((neD ((eLi (eLi eD)) l16) ((eLi (eLi eD)) ([])))).map fun v18=>(l16,v18))).map fun b17=>b17.2)))).bind fun b22=>if b22 then (some .none) else ((atI l10.2 0)).bind fun v23=>(QbC v23).bind fun t24=>((((asI t24.1)).bind fun c25=>if (!(decide (1 < c25) && decide (c25 < 9))) then some true else (((asI t24.2)).map fun c26=>(!(decide (2 < c26) && decide (c26 < 13)))))).bind fun b28=>if b28 then (some .none) else ((((((Q8r (fun x29=>(W0 x29)) (Yn l10.2 (some 1) none))).bind fun l30=>((((asI t24.1)).bind fun c31=>((asI t24.2)).map fun c32=>(c31,c32))).map fun b33=>(l30,b33))).bind fun b34=>((neD ((eLi eD) (List.map Q0 b34.1)) ((eLi eD) ([(Q0 (7 * b34.2.1)),t24.2,(Q0 (4 * b34.2.2)),(Q0 82)])))).map fun v36=>(b34,v36))).bind fun b35=>if b35.2 then (some .none) else ((((((((((((((atI l10.2 1)).bind fun v37=>((atI l10.2 2)).map fun v38=>(v37,v38))).bind fun b39=>(Wg b39.1 b39.2).map fun v41=>(b39,v41))).bind fun b40=>((atI l10.2 3)).map fun v42=>(b40,v42))).bind fun b43=>(Wg b43.1.2 b43.2).map fun v45=>(b43,v45))).bind fun b44=>((atI l10.2 4)).map fun v46=>(b44,v46))).bind fun b47=>(Wg b47.1.2 b47.2).map fun v49=>(b47,v49))).bind fun b48=>(some ((eP3 eD eD (eTu eD)) (t24.1,t24.2,b48.2)))
theorem Qf7 (text:Str):∀ v,Q2k text = some v → Q1j [.fz (Q3 text)] = some (v,[.fz (Q3 text)]):=by
 exact Zt (Xz (δ':=[.fz (Q3 text),.no,.no,.no,.no,.no,.no]) (Q1R (Q4B (Q73 (Yw (q:=(Q0U text ("\n":Str))) (e:=(eLi Q3)) (Xi 0 rfl) (Xh:VP _ _ (.str ("\n":Str))) (fun _ h=>Q5R _ _ _ h)) (fun _=>Q2u _)) (fun v1=>(Q3Y (e:=Q3) (e':=(eLi eD)) Q1A (fun x2=>(Vh 2)) (fun x2=>(Q1r (Q4B (Q73 (Yw (q:=(Q0U x2 (" ":Str))) (e:=(eLi Q3)) (Xi 2 rfl) (Xh:VP _ _ (.str (" ":Str))) (fun _ h=>Q5R _ _ _ h)) (fun _=>Q2u _)) (fun v3=>(Q3Y (e:=Q3) (e':=eD) Q1A (fun x4=>(Vh 3)) (fun x4=>(QaC (Y7 (Y3 (Xi 3 rfl) Y9) (Q8c _ )) (fun _=>rfl)))))) (fun _=>rfl)))))) (fun l10=>(Xz (δ':=[.fz (Q3 text),.ow ((eLi (eLi eD)) l10.2),.no,.no,.no,.no,.no]) (Q25 (Q68 (v:=true) (Kt (Yo (Q0q (Xl (Z2 1 rfl:VP _ _ ((eLi (eLi eD)) l10.2)) Xm) (Kr _)) (Xh:VP _ _ (.int 5)) (Q4t gI _ _))) (Q7J (r':=fun (c21:Bool)=>(c21,[.fz (Q3 text),.ow ((eLi (eLi eD)) l10.2),.no,.no,.no,.no,.no])) (Q4Q (Q0b (Wz (Y1 (Q9L (Y1 (Yw (q:=(atI l10.2 0)) (e:=(eLi eD)) (Z2 1 rfl:VP _ _ ((eLi (eLi eD)) l10.2)) (Xh:VP _ _ (.int 0)) (fun _ h=>K4 _ _ _ h)) (fun v13=>Xm)) (fun v13=>Kr _)) (fun v13=>(Xl (Xh:VP _ _ (.int 2)) Xm))) (fun v13=>g2x (Q4t gI _ _))) (fun _=>rfl)) (fun _=>rfl) (fun v13=>(Q0w (r':=fun (c19:Bool)=>(c19,[.fz (Q3 text),.ow ((eLi (eLi eD)) l10.2),.no,.no,.no,.no,.no])) (Q0b (V6 (e:=fun _=>Qj) (Y1 (Q5X (e:=(eLi eD)) (e':=(eLi eD)) (Q2V (Z2 1 rfl:VP _ _ ((eLi (eLi eD)) l10.2)) (Q2u _)) (fun x14=>(Vh 4)) (fun x14=>(Q7J (Q0b (Yw (q:=(inD .none ((eLi eD) x14))) (e:=Qj) (Xh:VP _ _ .none) (Xi 4 rfl) (fun _ h=>Qar _ _ h)) (fun _=>rfl)) (fun _=>rfl))) (fun x14=>(Q6z (v:=x14) (Xi 4 rfl) rfl))) (fun l16=>(Xl ((W3 Xm):VP _ _ ((eLi (eLi eD)) ([]))) Xm))) (fun l16 _ h=>g2x (Qar _ _ h))) (fun _=>rfl)) (fun _=>rfl))) (fun _=>rfl)) (fun _=>rfl)) rfl) (fun _=>rfl) (fun b22=>(Vt (Xz (δ':=[.fz (Q3 text),.ow ((eLi (eLi eD)) l10.2),.no,.no,.no,.no,.no]) (Z1 (Xh:VP _ _ .none) rfl)))) (fun b22=>(Wb (Xz (δ':=[.fz (Q3 text),.ow ((eLi (eLi eD)) l10.2),.no,.no,.no,.no,.no]) (Qbx (δx:=fun v23 t24=>[.fz (Q3 text),.ow ((eLi (eLi eD)) l10.2),.no,.no,.no,.fz t24.1,.fz t24.2]) (ee:=eD) (xs:=fun v23=>v23) (show VN _ _ ((atI l10.2 0)) _ from (Yw (q:=(atI l10.2 0)) (e:=(eLi eD)) (Z2 1 rfl:VP _ _ ((eLi (eLi eD)) l10.2)) (Xh:VP _ _ (.int 0)) (fun _ h=>K4 _ _ _ h))) (fun _=>rfl) (fun v23 t24=>(Vi (Vh 5) (Vi (Vh 6) Q0i))) (fun v23 t24=>(Xz (δ':=[.fz (Q3 text),.ow ((eLi (eLi eD)) l10.2),.no,.no,.no,.fz t24.1,.fz t24.2]) (Q25 (Q4Q (Q0S (Q0b (Q7K (Yz (Xh:VP _ _ (.int 1)) (Y1 (Q4w (q:=asI t24.1) (e:=Q0) (Xi 5 rfl) ((Q6A) _)) (fun c25=>Xm))) (fun _=>rfl) (fun c25=>(Xh:VP _ _ (.int 9))) (fun _=>Q7r _ _) (fun _=>Q7r _ _)) (fun _=>rfl))) (fun _=>rfl) (fun c25=>(Q0w (r':=fun (c27:Bool)=>(c27,[.fz (Q3 text),.ow ((eLi (eLi eD)) l10.2),.no,.no,.no,.fz t24.1,.fz t24.2])) (Q0S (Q0b (Q7K (Yz (Xh:VP _ _ (.int 2)) (Y1 (Q4w (q:=asI t24.2) (e:=Q0) (Xi 6 rfl) ((Q6A) _)) (fun c26=>Xm))) (fun _=>rfl) (fun c26=>(Xh:VP _ _ (.int 13))) (fun _=>Q7r _ _) (fun _=>Q7r _ _)) (fun _=>rfl))) (fun _=>rfl))) (fun _=>rfl)) (fun _=>rfl) (fun b28=>(Vt (Xz (δ':=[.fz (Q3 text),.ow ((eLi (eLi eD)) l10.2),.no,.no,.no,.fz t24.1,.fz t24.2]) (Z1 (Xh:VP _ _ .none) rfl)))) (fun b28=>(Wb (Xz (δ':=[.fz (Q3 text),.ow ((eLi (eLi eD)) l10.2),.no,.no,.no,.fz t24.1,.fz t24.2]) (Q25 (Q0b (V6 (e:=fun _=>Qj) (Wf (Q04 (z:=fun l30=>((eLi eD) (List.map Q0 l30))) (Qc4 (e:=(eLi eD)) (e':=Q0) (Q2V (Q0d (Z2 1 rfl:VP _ _ ((eLi (eLi eD)) l10.2)) (Yq (Xh:VP _ _ (.int 1))) Vc (K3 _ _ _)) (Q2u _)) (fun x29=>(Vh 4)) (fun x29=>(Q0q (Xl (Xi 4 rfl) Xm) (Kr _)))) (fun l30=>(coL (e:=Q0) (e':=eD) (f:=Q0) (fun _=>rfl)) l30)) (fun l30=>(Y1 (Q04 (z:=fun b33=>((eLi eD) ([(Q0 (7 * b33.1)),t24.2,(Q0 (4 * b33.2)),(Q0 82)]))) (Q1x (Wf (Wz (Yz (Xh:VP _ _ (.int 7)) (Y1 (Q4w (q:=asI t24.1) (e:=Q0) (Xi 5 rfl) ((Q6A) _)) (fun c31=>Xm))) (fun c31=>g2x (Vq _ _ rfl))) (fun c31=>(Yz (Xi 6 rfl) (Y1 (Wz (Yz (Xh:VP _ _ (.int 4)) (Y1 (Q4w (q:=asI t24.2) (e:=Q0) (Xi 6 rfl) ((Q6A) _)) (fun c32=>Xm))) (fun c32=>g2x (Vq _ _ rfl))) (fun c32=>(Xl (Xh:VP _ _ (.int 82)) Xm))))))) (fun _=>rfl)) (fun b33=>Xm)))) (fun b34 _ h=>g2x (Qar _ _ h))) (fun _=>rfl)) (fun _=>rfl) (fun b35=>(Vt (Xz (δ':=[.fz (Q3 text),.ow ((eLi (eLi eD)) l10.2),.no,.no,.no,.fz t24.1,.fz t24.2]) (Z1 (Xh:VP _ _ .none) rfl)))) (fun b35=>(Wb (Xz (δ':=[.fz (Q3 text),.ow ((eLi (eLi eD)) l10.2),.no,.no,.no,.fz t24.1,.fz t24.2]) (Vb (Q04 (z:=fun b48=>((eP3 eD eD (eTu eD)) (t24.1,t24.2,b48.2))) (Q4G (Yz (Xi 5 rfl) (Yz (Xi 6 rfl) (Y1 (Q9L (Y1 (V6 (e:=fun _=>(eLi eD)) (Wf (V6 (e:=fun _=>(eLi eD)) (Wf (V6 (e:=fun _=>(eLi eD)) (Wf (Yw (q:=(atI l10.2 1)) (e:=(eLi eD)) (Z2 1 rfl:VP _ _ ((eLi (eLi eD)) l10.2)) (Xh:VP _ _ (.int 1)) (fun _ h=>K4 _ _ _ h)) (fun v37=>(Y1 (Yw (q:=(atI l10.2 2)) (e:=(eLi eD)) (Z2 1 rfl:VP _ _ ((eLi (eLi eD)) l10.2)) (Xh:VP _ _ (.int 2)) (fun _ h=>K4 _ _ _ h)) (fun v38=>Xm)))) (fun b39 _ h=>g2x (W4 _ _ _ h))) (fun b40=>(Y1 (Yw (q:=(atI l10.2 3)) (e:=(eLi eD)) (Z2 1 rfl:VP _ _ ((eLi (eLi eD)) l10.2)) (Xh:VP _ _ (.int 3)) (fun _ h=>K4 _ _ _ h)) (fun v42=>Xm)))) (fun b43 _ h=>g2x (W4 _ _ _ h))) (fun b44=>(Y1 (Yw (q:=(atI l10.2 4)) (e:=(eLi eD)) (Z2 1 rfl:VP _ _ ((eLi (eLi eD)) l10.2)) (Xh:VP _ _ (.int 4)) (fun _ h=>K4 _ _ _ h)) (fun v46=>Xm)))) (fun b47 _ h=>g2x (W4 _ _ _ h))) (fun b48=>Xm)) (fun b48=>Q83 _)) (fun b48=>Xm))))) (fun _=>rfl)) (fun _=>rfl)))))))))))))))))))))
def Z3 (thing:D):Option Bool:=(((((Vm thing)).bind (X2 (fun e3=>some (Jx e3)) fun r2=>(some (Sum.inr false))):Option ((Str) ⊕ (Bool)))).bind (X2 (fun e4=>if exN.contains e4 && Q29 e4 "NoText" then Q2f ((["Full", "NoBack", "NoName", "NoPath", "NoPlace", "NoRow", "NotEmpty", "NoWorths", "Ring", "Taken", "Unsound"]:List Str).any (Q29 e4)) fun odd_6=>Q2f ((Q29 e4 "StoreError") && (true && (!odd_6))) fun good_7=>(some good_7) else none) some)).bind fun s8=>(some s8)
theorem Q3A (thing:D):∀ v,Z3 thing = some v → W7 [.fz thing] = some (.ok (Qj v),[.fz thing]):=by
 exact fx_n (Xz (δ':=[.fz thing,.no,.no,.no]) (Qa8 Q4S (Q7g (Xh:VP _ _ (.bool false)) (Xz (δ':=[.fz thing,.fz (Qj false),.no,.no]) (Qen (ns:=exN) (dc := "NoText") (ce:=fun (e4:Str)=>e4) (se:=fun (e4:Str)=>[.fz thing,.fz (Qj false),.no,.no]) (st:=fun s8=>[.fz thing,.fz (Qj s8),.no,.no]) (hb:=(Xz (δ':=[.fz thing,.fz (Qj false),.no,.no]) (QjT (QcE (Q2D (Xi 0 rfl) Q3e) (Q2N _ )) (fun _=>rfl) (fun r2=>(Qdp (v:=(Sum.inr false)) rfl))))) (hs:=fun e4 a5=>(Xz (δ':=[.fz thing,.fz (Qj false),.xv a5,.no]) (Qa8 Q4S (Q3V (e:=Qj) (v:=((["Full", "NoBack", "NoName", "NoPath", "NoPlace", "NoRow", "NotEmpty", "NoWorths", "Ring", "Taken", "Unsound"]:List Str).any (Q29 e4))) (Qg2 rfl) (fun odd_6=>(Xz (δ':=[.fz thing,.fz (Qj false),.xv a5,.fz (Qj odd_6)]) (Qa8 Q4S (Q3V (e:=Qj) (v:=((Q29 e4 "StoreError") && (true && (!odd_6)))) (Q9B (Qg2 rfl) (Q9B (Qg2 rfl) (QeS (Xi 3 rfl)))) (fun good_7=>(Qdp (v:=good_7) rfl)))))))))) (k:=fun s8=>(Xz (δ':=[.fz thing,.fz (Qj s8),.no,.no]) (QbF (Xi 1 rfl) rfl))))))))
def Q07 (thing:D):Option ((Str) ⊕ Bool):=((if (Q7A "str" thing) then ((((Zp thing).bind asI)).map fun v1=>(decide (12000 < v1))) else some false)).bind fun b3=>if b3 then (some (Sum.inr true)) else ((if (Q7A "str" thing) then (((((asS thing)).bind fun c4=>(Q2k c4).map fun v6=>(c4,v6))).map fun r5=>r5.2) else (some .none))).bind fun b9=>if (Qgw b9) then ((Z3 thing)).bind fun r11=>(some (Sum.inr r11)) else ((((((okQ (Vm thing))).bind fun r13=>((Q52 ((eP3 Q0 Q0 (eTu Q0)) r13))).map fun v16=>(r13,v16))).bind fun b15=>((Q52 b9)).map fun v17=>(b15,v17))).bind fun b18=>(some (Sum.inr (decide (b18.1.2 = b18.2))))
theorem Q8y (thing:D):∀ v,Q07 thing = some v → Zv [.fz thing] = some (eX (fun e=>e) (fun e=>[.fz thing]) (fun v=>(Qj v)) (fun v=>[.fz thing]) v):=by
 exact QiD (Xz (δ':=[.fz thing,.no]) (Q5T (Q91 (v:=false) (Kt (Q88 (Xi 0 rfl) (rfl))) (Q0w (r':=fun (c2:Bool)=>(c2,[.fz thing,.no])) (Q0b (Wz (Y1 (Q4k (q:=((Zp thing).bind asI)) (e:=Q0) (Xl (Xi 0 rfl) Xm) (fun _ h=>rawI _ _ h)) (fun v1=>(Xl (Xh:VP _ _ (.int 12000)) Xm))) (fun v1=>g2x (Qgy _ _))) (fun _=>rfl)) (fun _=>rfl)) rfl) (fun _=>rfl) (fun b3=>(Q0N (Xz (δ':=[.fz thing,.no]) (QbF (Xh:VP _ _ (.bool true)) rfl)))) (fun b3=>(Q1M (Xz (δ':=[.fz thing,.no]) (Qa8 Q4S (Vk (Qft (Kt (Q88 (Xi 0 rfl) (rfl))) (Q1r (r':=fun (c7:D)=>(c7,[.fz thing,.no])) (K7 (Q2t (Q4w (q:=asS thing) (e:=Q3) (Xi 0 rfl) ((Qil) _)) (fun c4=>Y9)) (fun c4=>Qf7 c4)) (fun _=>rfl)) (Q6z (v:=.none) (r':=fun (c8:D)=>(c8,[.fz thing,.no])) (Xh:VP _ _ .none) rfl)) (fun b9=>(Xz (δ':=[.fz thing,.fz b9]) (QhR (Kt (Yo (Xi 1 rfl) (Xh:VP _ _ .none) (rfl))) (Q0N (Xz (δ':=[.fz thing,.fz b9]) (Q9Y (Qaj (Q2D (Xi 0 rfl) Q3e) (Q3A _ )) (fun _=>rfl)))) (Q1M (Xz (δ':=[.fz thing,.fz b9]) (Q9Y (Wz (Wf (Q8u (e:=fun _=>Q3) (Y1 (Qaj (Q2D (Xi 0 rfl) Q3e) (Qhz (Q2N _ ))) (fun r13=>Xm)) (fun r13 _ h=>Qd2 _ _ h)) (fun b15=>(Y1 (Q4k (q:=(Q52 b9)) (e:=Q3) (Xl (Xi 1 rfl) Xm) (fun _ h=>Qd2 _ _ h)) (fun v17=>Xm)))) (fun b18=>g2x (Q1I gS _ _))) (fun _=>rfl))))))))))))))
def QcI (script:List Int):Option Bool:=((((Q1i (Qb5 script))).bind fun r1=>(Z3 (Q3 r1.1)).map fun v4=>(r1,v4))).bind fun r2=>if (!r2.2) then (some false) else (QaR (fun x6 s5=>((K5 (rngK 12) (Q8m (fun x10 s9=>(((W2 s9 2)).map fun r11=>(r11.1,r11.2))) (rngK 12) s5))).bind fun l12=>((Q0H l12.2)).bind fun r14=>((Q39 r14.1)).bind fun r16=>(QaR (fun x19 s18=>((Q3K s18 r16)).bind fun r20=>(if (decide (x19 = 1)) then ((Q3K r20.2 r20.1)).bind fun r23=>(some (r23.2,r23.1)) else (some (r20.2,r20.1))).bind fun s22=>((((okQ (Q07 (Q3 s22.2)))).bind fun r25=>if (!r25) then some true else (((okQ (Vm (Q3 r16)))).map fun r27=>(!decide (r27 = r14.1))))).bind fun b30=>if b30 then (some (Sum.inr false)) else (some (Jx s22.1))) l12.1 r14.2).bind (X2 (fun s18=>(some (Jx s18))) (fun v32=>(some (Sum.inr v32))))) (Q3i 0 (3:Int).toNat) r2.1.2).bind (X2 (fun s5=>Q2f ([(Q3 ("":Str)),(Q3 (" ":Str)),(Q3 ("\n":Str)),(Q3 ("2 3":Str)),(Q3 ("2 3\n\n\n\n":Str)),(Q3 ("0":Str)),(Q3 ("\n\n\n\n":Str)),(Q3 ("2 3\n0\n0\n0\n0":Str)),.none,(Qj true),(Q0 0),(Q0 5),((eTu Q0) ([])),((eP1 Q3) ("2 3":Str)),((eLi Q0) ([])),((eLi Q3) ([("2":Str)])),((eDi Q0 Q0) ([]))]) fun some_33=>(((((((Q7s ([0]) 111).bind fun v34=>(Wg some_33 ([(Q0 (10 ^ 39:Int)),((eDi Q3 Q0) ([(("2":Str),3)])),((eP3 Q0 Q0 (eTu Q0)) (2,3,v34))])).map fun v36=>(v34,v36))).bind fun b35=>(K5 b35.2 (Q1F (fun x37=>(((okQ (Q07 x37))).map fun r38=>(!r38))) (fun x37=>(some x37)) b35.2)).map fun v42=>(b35,v42))).bind fun l41=>((eqD ((eLi eD) l41.2) ((eLi eD) ([])))).map fun v44=>(l41,v44))).bind fun b43=>(some b43.2)) (fun v46=>(some v46)))
theorem Qkz (script:List Int):∀ v,QcI script = some v → φ_law [.scr script] = some ((Qj v),[.scr script]):=by
 exact Zt (Xz (δ':=[.scr script,.no,.no,.no,.no,.no,.no,.no,.no,.no]) (QgL (Xz (δ':=[.scr script,sDk (Qb5 script),.no,.no,.no,.no,.no,.no,.no,.no]) (Q25 (Q0S (Q0b (QjR (QkC (asl:=fun r1=>[.d (Q3 r1.1)]) (st:=fun r1=>[.scr script,sDk r1.2,.no,.no,.no,.no,.no,.no,.no,.no]) (Qk5 (Y7 (Vn 1 Y9) (Qa9 _ )) (fun r1=>Q3e))) (fun r1 v hv=>by exact Q3A (Q3 r1.1) v hv)) (fun _=>rfl))) (fun _=>rfl) (fun r2=>(Vt (Xz (δ':=[.scr script,sDk r2.1.2,.no,.no,.no,.no,.no,.no,.no,.no]) (Z1 (Xh:VP _ _ (.bool false)) rfl)))) (fun r2=>(Wb (Q1C (Xz (δ':=[.scr script,sDk r2.1.2,.no,.no,.no,.no,.no,.no,.no,.no]) (QcC (e:=Q0) (st:=fun s5=>[.scr script,sDk s5,.no,.no,.no,.no,.no,.no,.no,.no]) (s0:=r2.1.2) (rv:=fun v45=>(Qj v45)) (ro:=fun v45=>[.scr script]) (Qdf (Xl (Xh:VP _ _ (.int 3)) Xm)) (fun x6 s5=>(Vh 2)) (fun x6 s5=>(Xz (δ':=[.scr script,sDk s5,.fz (Q0 x6),.no,.no,.no,.no,.no,.no,.no]) (Q1R (Q6T (e:=Q0) (e':=Q0) (st:=fun s9=>[.scr script,sDk s9,.fz (Q0 x6),.no,.no,.no,.no,.no,.no,.no]) (s0:=s5) (δb:=fun x10 s9=>[.scr script,sDk s9,.fz (Q0 x6),.no,.no,.no,.no,.no,.fz (Q0 x10),.no]) (Qgm (Xl (Xh:VP _ _ (.int 12)) Xm)) (fun x10 s9=>(Vh 8)) (fun x10 s9=>(Q1r (Y7 (Vn 1 (Y3 (Xh:VP _ _ (.int 2)) Y9)) (Vr _ _ )) (fun _=>rfl)))) (fun l12=>(Xz (δ':=[.scr script,sDk l12.2,.fz (Q0 x6),.ow (Y2 l12.1),.no,.no,.no,.no,.no,.no]) (Vk (Y7 (Vn 1 Y9) (Q8k _ )) (fun r14=>(Xz (δ':=[.scr script,sDk r14.2,.fz (Q0 x6),.ow (Y2 l12.1),.fz (Q0c r14.1),.no,.no,.no,.no,.no]) (Vk (Y7 (Y3 (Xi 4 rfl) Y9) (Qap _ )) (fun r16=>(Q1C (QiR (Xz (δ':=[.scr script,sDk r14.2,.fz (Q0 x6),.fz (Y2 l12.1),.fz (Q0c r14.1),.fz (Q3 r16),.no,.no,.no,.no]) (QcC (e:=Q0) (st:=fun s18=>[.scr script,sDk s18,.fz (Q0 x6),.fz (Y2 l12.1),.fz (Q0c r14.1),.fz (Q3 r16),.no,.no,.no,.no]) (s0:=r14.2) (rv:=fun v31=>(Qj v31)) (ro:=fun v31=>[.scr script]) (Q2V (Xi 3 rfl) (Q2u _)) (fun x19 s18=>(Vh 6)) (fun x19 s18=>(Xz (δ':=[.scr script,sDk s18,.fz (Q0 x6),.fz (Y2 l12.1),.fz (Q0c r14.1),.fz (Q3 r16),.fz (Q0 x19),.no,.no,.no]) (Vk (Y7 (Vn 1 (Y3 (Xi 5 rfl) Y9)) (QaF _ _ )) (fun r20=>(Xz (δ':=[.scr script,sDk r20.2,.fz (Q0 x6),.fz (Y2 l12.1),.fz (Q0c r14.1),.fz (Q3 r16),.fz (Q0 x19),.fz (Q3 r20.1),.no,.no]) (Q1g (st:=fun s22=>[.scr script,sDk s22.1,.fz (Q0 x6),.fz (Y2 l12.1),.fz (Q0c r14.1),.fz (Q3 r16),.fz (Q0 x19),.fz (Q3 s22.2),.no,.no]) (Q3G (Kt (Yo (Xi 6 rfl) (Xh:VP _ _ (.int 1)) (Q1I gI _ _))) (Xz (δ':=[.scr script,sDk r20.2,.fz (Q0 x6),.fz (Y2 l12.1),.fz (Q0c r14.1),.fz (Q3 r16),.fz (Q0 x19),.fz (Q3 r20.1),.no,.no]) (Vk (Y7 (Vn 1 (Y3 (Xi 7 rfl) Y9)) (QaF _ _ )) (fun r23=>(Zm (v:=(r23.2,r23.1)) rfl)))) (Zm (v:=(r20.2,r20.1)) rfl)) (fun s22=>(Xz (δ':=[.scr script,sDk s22.1,.fz (Q0 x6),.fz (Y2 l12.1),.fz (Q0c r14.1),.fz (Q3 r16),.fz (Q0 x19),.fz (Q3 s22.2),.no,.no]) (Q25 (Q4Q (Q0S (Q0b (Qaj (Q2D (Xi 7 rfl) Q3e) (Qhz (Q8y _ ))) (fun _=>rfl))) (fun _=>rfl) (fun r25=>(Q0w (r':=fun (c29:Bool)=>(c29,[.scr script,sDk s22.1,.fz (Q0 x6),.fz (Y2 l12.1),.fz (Q0c r14.1),.fz (Q3 r16),.fz (Q0 x19),.fz (Q3 s22.2),.no,.no])) (Q0b (Wz (Y1 (Qaj (Q2D (Xi 5 rfl) Q3e) (Qhz (Q2N _ ))) (fun r27=>(Xl (Xi 4 rfl) Xm))) (fun r27=>g2x (Q4t (gP3 gI gI (gTu gI)) _ _))) (fun _=>rfl)) (fun _=>rfl))) (fun _=>rfl)) (fun _=>rfl) (fun b30=>(Vt (Xz (δ':=[.scr script,sDk s22.1,.fz (Q0 x6),.fz (Y2 l12.1),.fz (Q0c r14.1),.fz (Q3 r16),.fz (Q0 x19),.fz (Q3 s22.2),.no,.no]) (Z1 (Xh:VP _ _ (.bool false)) rfl)))) (fun b30=>(Wb (Z4 (v:=(Jx s22.1)) rfl)))))))))))) (fun _=>⟨_,rfl,rfl⟩) (fun s18=>(Z4 (v:=(Jx s18)) rfl)))))))))))))))) (fun _=>⟨_,rfl,rfl⟩) (fun s5=>(Xz (δ':=[.scr script,sDk s5,.no,.no,.no,.no,.no,.no,.no,.no]) (Q3V (e:=(eLi eD)) (v:=[(Q3 ("":Str)),(Q3 (" ":Str)),(Q3 ("\n":Str)),(Q3 ("2 3":Str)),(Q3 ("2 3\n\n\n\n":Str)),(Q3 ("0":Str)),(Q3 ("\n\n\n\n":Str)),(Q3 ("2 3\n0\n0\n0\n0":Str)),.none,(Qj true),(Q0 0),(Q0 5),((eTu Q0) ([])),((eP1 Q3) ("2 3":Str)),(Y2 ([])),((eLi Q3) ([("2":Str)])),((eDi Q0 Q0) ([]))]) ((W3 (Xl (Xh:VP _ _ (.str ("":Str))) (Xl (Xh:VP _ _ (.str (" ":Str))) (Xl (Xh:VP _ _ (.str ("\n":Str))) (Xl (Xh:VP _ _ (.str ("2 3":Str))) (Xl (Xh:VP _ _ (.str ("2 3\n\n\n\n":Str))) (Xl (Xh:VP _ _ (.str ("0":Str))) (Xl (Xh:VP _ _ (.str ("\n\n\n\n":Str))) (Xl (Xh:VP _ _ (.str ("2 3\n0\n0\n0\n0":Str))) (Xl (Xh:VP _ _ .none) (Xl (Xh:VP _ _ (.bool true)) (Xl (Xh:VP _ _ (.int 0)) (Xl (Xh:VP _ _ (.int 5)) (Xl ((Q02 Xm):VP _ _ ((eTu Q0) ([]))) (Xl ((Q02 (Xl (Xh:VP _ _ (.str ("2 3":Str))) Xm)):VP _ _ ((eP1 Q3) ("2 3":Str))) (Xl ((W3 Xm):VP _ _ (Y2 ([]))) (Xl ((W3 (Xl (Xh:VP _ _ (.str ("2":Str))) Xm)):VP _ _ ((eLi Q3) ([("2":Str)]))) (Xl (Qhv) Xm)))))))))))))))))):VP _ _ ((eLi eD) ([(Q3 ("":Str)),(Q3 (" ":Str)),(Q3 ("\n":Str)),(Q3 ("2 3":Str)),(Q3 ("2 3\n\n\n\n":Str)),(Q3 ("0":Str)),(Q3 ("\n\n\n\n":Str)),(Q3 ("2 3\n0\n0\n0\n0":Str)),.none,(Qj true),(Q0 0),(Q0 5),((eTu Q0) ([])),((eP1 Q3) ("2 3":Str)),(Y2 ([])),((eLi Q3) ([("2":Str)])),((eDi Q0 Q0) ([]))]))) (fun some_33=>(Xz (δ':=[.scr script,sDk s5,.no,.no,.no,.no,.no,.no,.no,.fz ((eLi eD) some_33)]) (Vb (V6 (e:=fun _=>Qj) (Y1 (Q4B (Q73 (V6 (e:=fun _=>(eLi eD)) (Yz (Xi 9 rfl) (Y1 (Q04 (z:=fun (v34:(List Int))=>((eLi eD) ([(Q0 (10 ^ 39:Int)),((eDi Q3 Q0) ([(("2":Str),3)])),(Q0c (2,3,v34))]))) (Q1x (Yz (Yo (Xh:VP _ _ (.int 10)) (Xh:VP _ _ (.int 39)) (show Q33 (.int 10) (.int 39) = some (.int (10 ^ 39)) from rfl)) (Yz (Q9M (Q6V (Xh:VP _ _ (.str ("2":Str))) (Xh:VP _ _ (.int 3)) Qcj) rfl:VP _ _ ((eDi Q3 Q0) [(("2":Str),3)])) (Y1 (Q04 (z:=fun (v34:(List Int))=>(Q0c (2,3,v34))) (Q4G (Yz (Xh:VP _ _ (.int 2)) (Yz (Xh:VP _ _ (.int 3)) (Y1 (Yw (q:=Q7s ([0]) 111) (e:=(eTu Q0)) (Qic ((Q02 (Xl (Xh:VP _ _ (.int 0)) Xm)):VP _ _ ((eP1 Q0) 0)) ((QhP (fun _=>rfl)) 0):VP _ _ ((eTu Q0) ([0]))) (Xh:VP _ _ (.int 111)) (fun _ h=>QeP _ _ _ h)) (fun v34=>Xm))))) (fun _=>rfl)) (fun v34=>Xm))))) (fun _=>rfl)) (fun v34=>Xm))) (fun v34 _ h=>g2x (W4 _ _ _ h))) (fun _=>Q2u _)) (fun b35=>(Q5X (e:=eD) (e':=eD) Q1A (fun x37=>(Vh 7)) (fun x37=>(Q0w (Q0S (Q0b (Qaj (Q2D (Xi 7 rfl) Q3e) (Qhz (Q8y _ ))) (fun _=>rfl))) (fun _=>rfl))) (fun x37=>(Q6z (v:=x37) (Xi 7 rfl) rfl))))) (fun l41=>(Xl ((W3 Xm):VP _ _ ((eLi eD) ([]))) Xm))) (fun l41 _ h=>g2x (Qar _ _ h))) (fun _=>rfl))))))))))))))))
end K05
namespace K05
open PySem PySem.Spec PyProof.Rows L2 Z
variable {ι τ σ ρ:Type}
abbrev St:=Int × Int × List Int
structure WF (st:St):Prop where
 h1:2 ≤ st.1
 h2:st.1 ≤ 8
 b1:3 ≤ st.2.1
 b2:st.2.1 ≤ 12
 n:(st.2.2.length:Int) = 7 * st.1 + 5 * st.2.1 + 82
def cel (cs:List Int) (i:Int):Int:=cs.getD i.toNat 0
def hK (st:St) (x:Int):Int:=cel st.2.2 (7 * (x - 1) + 0)
def hL (st:St) (x:Int):Int:=cel st.2.2 (7 * (x - 1) + 2)
def hS (st:St) (x j:Int):Int:=cel st.2.2 (7 * (x - 1) + 4 + j)
def meas (k l x:Int):Bool:=decide ((k = 2 ∨ (k = 1 ∧ 2 < x)) ∧ 0 ≤ l ∧ l ≤ 12 ∧ (k = 2 → l % 2 = 0))
def need (l x j:Int):Bool:=decide (x = 2 ∨ 4 * j < l)
def mayB (b x j s:Int):Bool:=decide ((x = 2 ∧ s = j + 1) ∨ (x ≠ 2 ∧ 4 ≤ s ∧ s ≤ b))
def hold (st:St) (x j:Int):Bool:=need (hL st x) x j && mayB st.2.1 x j (hS st x j)
def m3 (st:St) (x:Int):List Int:=if meas (hK st x) (hL st x) x then [0,1,2] else []
def hj (st:St) (x:Int):List Int:=(m3 st x).filter (hold st x)
def hq (st:St) (x j:Int):Int × Int × Int × Int:=(x,j,hS st x j,max 0 (min 4 (hL st x - 4 * j)))
end K05
namespace K05
open PySem PySem.Spec PyProof.Rows L2 Z
variable {ι τ σ ρ:Type}
theorem QcA {a:Int} (h0:0 ≤ a) (h1:a ≤ 1000000000000000):Q0s a = true:=by
 unfold Q0s
 simp
 omega
theorem Q9Z {k:Dk} {xs:List Int} {P:Int × Dk → Prop} (hk:k.cs.length ≤ 63) (h0:0 < xs.length) (h1:xs.length < 1000) (h:∀ x ∈ xs,∀ k':Dk,k'.cs.length ≤ 63 → P (x,k')):Wt (Q2v k xs) P:=by
 unfold Q2v W0
 repeat (first | (with_reducible refine Xn ?_) | (with_reducible refine Y4 ?_) | (with_reducible refine Yy ?_) | (with_reducible refine Yf (by assumption) (by omega) (by omega) ?_; intro _ _ _ _ _; dsimp only))
 refine Q2W (by assumption) (by assumption) fun x hx=>?_
 exact Y5 (h x hx _ (by assumption))
theorem QeV {k:Dk} {P:(Int × Int) × Dk → Prop} (hk:k.cs.length ≤ 63) (h:∀ a b k',2 ≤ a → a ≤ 8 → 3 ≤ b → b ≤ 12 → k'.cs.length ≤ 63 → P ((a,b),k')):Wt (Q40 k) P:=by
 unfold Q40 boI
 repeat (first | (with_reducible refine Xn ?_) | (with_reducible refine Y4 ?_) | (with_reducible refine Yy ?_) | (with_reducible refine Yf (by assumption) (by omega) (by omega) ?_; intro _ _ _ _ _; dsimp only))
 refine Q2W (by split <;> split <;> omega) (by simp only [Qh,Qw]; split <;> split <;> simp_all <;> omega) fun x hx=>?_
 refine Y5 ?_
 obtain ⟨a,b⟩:=x
 simp only [Qg,Qu,or_false,Prod.mk.injEq] at hx
 exact h _ _ _ (by omega) (by omega) (by omega) (by omega) (by assumption)
def Bd (B:Int) (st:St):Prop:=∀ c ∈ st.2.2,-B ≤ c ∧ c ≤ B
abbrev Mo:=List (Int × (Int × List D))
def Q1U (k:Int) (Vv:List D):Int:=(k * (Vv.length:Int) + 3) / 4
theorem Q59 {k:Int} {Vv:List D} (h0:0 ≤ k) (h1:k ≤ 1000):Q05 k Vv = some (Q1U k Vv):=by
 obtain ⟨a,e,rfl⟩:Wt (Q23 k (W0 Vv)) fun a=>a = k * (Vv.length:Int):=QeR (.inl (QcA (by omega) (by omega))) rfl
 unfold Q05
 rw [e]
 rfl
theorem Qf2 {k:Int} {Vv:List D} (h0:0 ≤ k):0 ≤ Q1U k Vv:=by
 unfold Q1U
 have:0 ≤ k * (Vv.length:Int):=Int.mul_nonneg h0 (by omega)
 omega
def nk (m:Mo) (x:Int):Int:=match Z0 m x with | some v=>Q1U v.1 v.2 | none=>0
def sm (m:Mo) (xs:List Int):Int:=((xs.filter fun x=>!decide (x = 2)).map (nk m)).sum
def ks (m:Mo):List Int:=m.map (·.1)
theorem Zz (m:Mo) (x:Int) (xs:List Int):sm m (x :: xs) = (if x = 2 then 0 else nk m x) + sm m xs:=by
 unfold sm
 rw [List.filter_cons]
 by_cases c:x = 2 <;> simp [c]
theorem QfX (m:Mo):sm m [] = 0:=rfl
theorem Qhc (m:Mo) {xs ys:List Int} (p:xs.Perm ys):sm m xs = sm m ys:=by
 induction p with
 | nil=>rfl
 | cons x _ ih=>rw [Zz,Zz,ih]
 | swap x y l=>simp only [Zz]; omega
 | trans _ _ a b=>exact a.trans b
theorem Q7v (m m':Mo):∀ xs:List Int,(∀ x ∈ xs,nk m x = nk m' x) → sm m xs = sm m' xs
 | [],_=>rfl
 | x :: xs,h=>by rw [Zz,Zz,h x (Q7 ..),Q7v m m' xs fun y hy=>h y (Q6 _ hy)]
theorem QfN (m m':Mo) (f:Int):∀ xs:List Int,xs.Nodup → (∀ x ∈ xs,x ≠ f → nk m x = nk m' x) → f ∈ xs → sm m' xs = sm m xs + (if f = 2 then 0 else nk m' f - nk m f)
 | [],_,_,h=>nomatch h
 | x :: xs,nd,h,hf=>by
  rw [Zz,Zz]
  have nd':=X8.mp nd
  by_cases c:x = f
  ·subst c
   rw [Q7v m m' xs fun y hy=>h y (Q6 _ hy) (fun e=>nd'.1 (e ▸ hy))]
   split <;> omega
  ·have hf':f ∈ xs:=by
    rcases Qg.mp hf with e | e
    ·exact absurd e.symm c
    ·exact e
   rw [QfN m m' f xs nd'.2 (fun y hy=>h y (Q6 _ hy)) hf',h x (Q7 ..) c]
   omega
theorem Q1u (m:Mo) (k:Int) (v:Int × List D) (x:Int):Z0 (Q01 m k v) x = if x = k then some v else Z0 m x:=by
 unfold Q01
 by_cases c:m.any (fun p=>decide (p.1 = k)) = true
 ·rw [if_pos c]
  have eq:∀ p:Int × (Int × List D),(if p.1 = k then (p.1,v) else p).1 = p.1:=fun p=>by split <;> rfl
  have e0:(m.map fun p=>if p.1 = k then (p.1,v) else p).find? (fun p=>decide (p.1 = x)) = (m.find? fun p=>decide (p.1 = x)).map fun p=>if p.1 = k then (p.1,v) else p:=by
   rw [List.find?_map]
   congr 1
   congr 1
   funext p
   simp only [Function.comp,eq]
  unfold Z0
  rw [e0]
  cases e1:m.find? (fun p=>decide (p.1 = x)) with
  | none =>
   by_cases e:x = k
   ·subst e
    obtain ⟨p,hp,q⟩:=Xe.mp c
    exact absurd q (List.find?_eq_none.mp e1 p hp)
   ·rw [if_neg e]; rfl
  | some p =>
   have hp0:=List.find?_some e1
   have hp:=of_decide_eq_true hp0
   by_cases e:x = k
   ·rw [if_pos e]
    simp [hp,e]
   ·rw [if_neg e]
    simp [hp,e]
 ·rw [if_neg c]
  unfold Z0
  rw [List.find?_append]
  by_cases e:x = k
  ·subst e
   have:m.find? (fun p=>decide (p.1 = x)) = none:=by
    rw [List.find?_eq_none]
    intro p hp q
    exact c (Xe.mpr ⟨p,hp,q⟩)
   rw [this,if_pos rfl]
   simp
  ·rw [if_neg e]
   have:([(k,v)]:Mo).find? (fun p=>decide (p.1 = x)) = none:=by
    rw [List.find?_eq_none]
    intro p hp q
    rw [Qr] at hp
    subst hp
    exact e (of_decide_eq_true q).symm
   rw [this,Option.or_none]
def Row (h:Int) (d:D):Prop:=∃ a c:Int,d = .tuple [.int a,.int c] ∧ 1 ≤ c ∧ c ≤ h ∧ 0 ≤ a ∧ a ≤ 100
structure MI (h b L:Int) (m:Mo):Prop where
 nd:(ks m).Nodup
 k1:1 ∈ ks m
 k2:2 ∈ ks m
 kb:∀ x ∈ ks m,1 ≤ x ∧ x ≤ h
 ent:∀ p ∈ m,(p.2.1 = 2 ∧ ∀ d ∈ p.2.2,Row h d) ∨ (p.2.1 = 1 ∧ ∀ d ∈ p.2.2,∃ a:Int,d = .int a ∧ 0 ≤ a ∧ a ≤ 100)
 len:∀ p ∈ m,(p.2.2.length:Int) ≤ L
 lf:sm m (ks m) ≤ b - 3
 ml:m.length ≤ 8
def FO (m:Mo) (fs:List Int):Prop:=∀ f ∈ fs,∃ Vv,Z0 m f = some (2,Vv)
theorem MI.mon {h b L L':Int} {m:Mo} (i:MI h b L m) (l:L ≤ L'):MI h b L' m:=⟨i.nd,i.k1,i.k2,i.kb,i.ent,fun p hp=>by have:=i.len p hp; omega,i.lf,i.ml⟩
theorem MI.kind {h b L:Int} {m:Mo} (i:MI h b L m) {p:Int × (Int × List D)} (hp:p ∈ m):0 ≤ p.2.1 ∧ p.2.1 ≤ 2:=by
 rcases i.ent p hp with ⟨e,_⟩ | ⟨e,_⟩ <;> rw [e] <;> omega
theorem Q78 {m:Mo} {x:Int} {v:Int × List D} (e:Z0 m x = some v):nk m x = Q1U v.1 v.2:=by
 unfold nk
 rw [e]
theorem MI.nk_nn {h b L:Int} {m:Mo} (i:MI h b L m) (x:Int):0 ≤ nk m x:=by
 unfold nk
 split
 ·rename_i v e
  exact Qf2 (i.kind (Q0R e)).1
 ·omega
theorem QcO {h b L:Int} {m:Mo} (i:MI h b L m):Q2m m b = some (b - 3 - sm m (ks m)):=by
 have hl:=i.ml
 unfold Q2m
 have e:K5 (m.map (·.1)) (Q1F (fun x1=>(some (!decide (x1 = 2)))) (fun x1=>(((((((Z0 m x1)).bind fun v2=>((Z0 m x1)).map fun v3=>(v2,v3))).bind fun b4=>(Q05 b4.1.1 b4.2.2).map fun v6=>(b4,v6))).map fun r5=>r5.2)) (m.map (·.1))) = some (((ks m).filter fun x=>!decide (x = 2)).map (nk m)):=by
  unfold K5
  rw [if_pos (by rw [Q4]; have:=Q24; omega)]
  refine Q6O _ _ _ (fun _ _=>rfl) fun x hx _=>?_
  obtain ⟨v,e⟩:=Q7n hx
  have:=i.kind (Q0R e)
  dsimp only at this
  rw [e]
  simp only [Q1,Qi]
  rw [Q59 (by omega) (by omega),Q78 e]
  rfl
 rw [e]
 rfl
theorem MI.new {h b L:Int} {m:Mo} (i:MI h b L m) {x:Int} {v:Int × List D} (hx:x ∉ ks m) (h1:3 ≤ x) (h2:x ≤ h) (hv:(v.1 = 2 ∧ v.2 = []) ∨ (v.1 = 1 ∧ ∀ d ∈ v.2,∃ a:Int,d = .int a ∧ 0 ≤ a ∧ a ≤ 100)) (hl:(v.2.length:Int) ≤ L) (hn:sm m (ks m) + Q1U v.1 v.2 ≤ b - 3) (hm:m.length < 8):MI h b L (Q01 m x v) ∧ ks (Q01 m x v) = ks m ++ [x]:=by
 have e:Q01 m x v = m ++ [(x,v)]:=QaG _ _ _ hx
 have ek:ks (Q01 m x v) = ks m ++ [x]:=by rw [e]; simp [ks]
 refine ⟨⟨?_,?_,?_,?_,?_,?_,?_,?_⟩,ek⟩
 ·rw [ek,X4]
  exact ⟨i.nd,by simp,fun a ha c hc=>by rw [Qr] at hc; subst hc; exact fun q=>hx (q ▸ ha)⟩
 ·rw [ek]; exact Qc.mpr (.inl i.k1)
 ·rw [ek]; exact Qc.mpr (.inl i.k2)
 ·intro y hy
  rw [ek] at hy
  rcases Qc.mp hy with hy | hy
  ·exact i.kb y hy
  ·rw [Qr] at hy; omega
 ·intro p hp
  rcases Q3E hp with rfl | hp
  ·rcases hv with ⟨a,c⟩ | hv
   ·exact .inl ⟨a,fun d hd=>by rw [c] at hd; exact nomatch hd⟩
   ·exact .inr hv
  ·exact i.ent p hp
 ·intro p hp
  rcases Q3E hp with rfl | hp
  ·exact hl
  ·exact i.len p hp
 ·rw [ek]
  have e1:∀ (ys:List Int),sm (Q01 m x v) (ys ++ [x]) = sm (Q01 m x v) ys + Q1U v.1 v.2:=by
   intro ys
   induction ys with
   | nil =>
    rw [List.nil_append,Zz,QfX,if_neg (by omega),Q78 (v:=v) (by rw [Q1u,if_pos rfl])]
    omega
   | cons y ys ih=>rw [List.cons_append,Zz,Zz,ih]; omega
  rw [e1,Q7v (Q01 m x v) m (ks m) fun y hy=>by
   unfold nk
   rw [Q1u,if_neg (fun q:y = x=>hx (q ▸ hy))]]
  exact hn
 ·have:=Q7w m x v
  omega
theorem MI.more {h b L:Int} {m:Mo} (i:MI h b L m) {f:Int} {Vv more:List D} (hf:Z0 m f = some (2,Vv)) (hr:∀ d ∈ more,Row h d) (hl:(more.length:Int) ≤ L + 1) (hn:f = 2 ∨ Q1U 2 more - Q1U 2 Vv ≤ b - 3 - sm m (ks m)):MI h b (L + 1) (Q01 m f (2,more)) ∧ ks (Q01 m f (2,more)) = ks m:=by
 have hm:=Q0R hf
 have hk:f ∈ ks m:=Qy.mpr ⟨_,hm,rfl⟩
 have ek:ks (Q01 m f (2,more)) = ks m:=Q8Y _ _ _ hk
 refine ⟨⟨?_,?_,?_,?_,?_,?_,?_,?_⟩,ek⟩
 ·rw [ek]; exact i.nd
 ·rw [ek]; exact i.k1
 ·rw [ek]; exact i.k2
 ·rw [ek]; exact i.kb
 ·intro p hp
  rcases Q3E hp with rfl | hp
  ·exact .inl ⟨rfl,hr⟩
  ·exact i.ent p hp
 ·intro p hp
  rcases Q3E hp with rfl | hp
  ·exact hl
  ·have:=i.len p hp
   omega
 ·rw [ek,QfN m _ f (ks m) i.nd (fun y hy hy2=>by unfold nk; rw [Q1u,if_neg hy2]) hk]
  have e1:nk (Q01 m f (2,more)) f = Q1U 2 more:=Q78 (v:=(2,more)) (by rw [Q1u,if_pos rfl])
  have e2:nk m f = Q1U 2 Vv:=Q78 hf
  have:=i.lf
  rw [e1,e2]
  split <;> omega
 ·have e3:(ks (Q01 m f (2,more))).length = (ks m).length:=by rw [ek]
  unfold ks at e3
  rw [Q4,Q4] at e3
  have:=i.ml
  omega
theorem FO.put {m:Mo} {fs:List Int} (o:FO m fs) (f:Int) (Vv:List D):FO (Q01 m f (2,Vv)) fs:=by
 intro g hg
 rw [Q1u]
 by_cases c:g = f
 ·exact ⟨_,if_pos c⟩
 ·rw [if_neg c]
  exact o g hg
theorem FO.new {m:Mo} {fs:List Int} (o:FO m fs) {f:Int} {v:Int × List D} (hf:f ∉ ks m):FO (Q01 m f v) fs:=by
 intro g hg
 obtain ⟨r,e⟩:=o g hg
 have:g ≠ f:=fun q=>hf (q ▸ Qy.mpr ⟨_,Q0R e,rfl⟩)
 rw [Q1u,if_neg this]
 exact ⟨r,e⟩
theorem QgK (a b:Int):eqD (.int a) (.int b) = some (decide (a = b)):=by
 have h:=Q1I gI a b
 unfold bD at h
 cases e:eqD (.int a) (.int b) with
 | none=>rw [e] at h; cases h
 | some q =>
  rw [e] at h
  injection h with h
  injection h with h
  rw [h]
theorem Qb7 {h:Int}:∀ (ds:List D),(∀ d ∈ ds,Row h d) → Jv ds = true ∧ Jc ds ≤ 1
 | [],_=>⟨rfl,Jo _⟩
 | d :: ds,H=>by
  obtain ⟨a,c,rfl,_⟩:=H d (Q7 ..)
  obtain ⟨p,q⟩:=Qb7 ds fun x hx=>H x (Q6 _ hx)
  refine ⟨?_,?_⟩
  ·simp only [Jv,p]
   rfl
  ·simp only [Jc,X6]
   omega
theorem Qcq {h:Int} {ds:List D} {P:List D → Prop} (H:∀ d ∈ ds,Row h d) (p:∀ es,es.Perm ds → P es):Wt (Q7S ds) P:=by
 have h1:Q4J ds = true:=by
  unfold Q4J
  rw [Qe]
  intro d hd
  rw [Qe]
  intro e he
  obtain ⟨a,c,rfl,_⟩:=H d hd
  obtain ⟨a2,c2,rfl,_⟩:=H e he
  rfl
 have h2:Q6s ds = true:=by
  unfold Q6s
  rw [Jg]
  left
  rw [Qe]
  intro d hd
  obtain ⟨a,c,rfl,_⟩:=H d hd
  rfl
 have h3:ds.all (fun d=>decide (d.depth ≤ 64)) = true:=by
  rw [Qe]
  intro d hd
  obtain ⟨a,c,rfl,_⟩:=H d hd
  rfl
 refine ⟨Qbf ds,?_,p _ (List.mergeSort_perm _ _)⟩
 unfold Q7S
 rw [h1,h2,h3]
 rfl
theorem Qbr {h b L:Int} {m:Mo} {fs:List Int} {f name x:Int} {P:Bool × Mo → Prop} (i:MI h b L m) (o:FO m fs) (hf:f ∈ fs) (x1:1 ≤ x) (x2:x ≤ h) (n0:0 ≤ name) (n1:name ≤ 100) (hL:L ≤ 1000) (hP:∀ ok m',MI h b (L + 1) m' → (∀ gs,FO m gs → FO m' gs) → ks m' = ks m → P (ok,m')):Wt (Q1l m b f name x) P:=by
 obtain ⟨Vv,ef⟩:=o f hf
 have hm:=Q0R ef
 have hl:=i.len _ hm
 dsimp only at hl
 have hr:∀ d ∈ Vv,Row h d:=by
  rcases i.ent _ hm with ⟨_,q⟩ | ⟨q,_⟩
  ·exact q
  ·exact absurd (show (2:Int) = 1 from q) (by decide)
 unfold Q1l W0
 rw [ef,Q1]
 repeat (first | (with_reducible refine Xn ?_) | (with_reducible refine Y4 ?_) | (with_reducible refine Yy ?_) | (with_reducible refine Yf (by assumption) (by omega) (by omega) ?_; intro _ _ _ _ _; dsimp only))
 refine Q4z (by simp; omega) ?_
 have hr2:∀ d ∈ Vv ++ [((eP2 Q0 Q0) (name,x))],Row h d:=by
  intro d hd
  rcases Qc.mp hd with hd | hd
  ·exact hr d hd
  ·rw [Qr] at hd
   subst hd
   exact ⟨_,_,rfl,x1,x2,n0,n1⟩
 repeat (first | (with_reducible refine Xn ?_) | (with_reducible refine Y4 ?_) | (with_reducible refine Yy ?_) | (with_reducible refine Yf (by assumption) (by omega) (by omega) ?_; intro _ _ _ _ _; dsimp only))
 refine Qcq hr2 fun more pm=>?_
 have hm1:(more.length:Int) ≤ L + 1:=by rw [pm.length_eq,Qb]; simp; omega
 have hmr:∀ d ∈ more,Row h d:=fun d hd=>hr2 d (pm.mem_iff.mp hd)
 dsimp only
 rw [Q59 (by omega) (by omega),Q59 (by omega) (by omega),QcO i]
 simp only [Q1,Qi]
 repeat (first | (with_reducible refine Xn ?_) | (with_reducible refine Y4 ?_) | (with_reducible refine Yy ?_) | (with_reducible refine Yf (by assumption) (by omega) (by omega) ?_; intro _ _ _ _ _; dsimp only))
 have same:P (false,m):=hP _ _ (i.mon (by omega)) (fun _ h=>h) rfl
 by_cases c1:(Vv.length:Int) < 6
 ·simp only [decide_eq_true c1,if_true]
  refine Ks (fun c2=>?_) (fun _=>Y5 (by simpa using Y5 same))
  have c2':=of_decide_eq_true c2
  obtain ⟨l,el,hl'⟩:Wt (K5 Vv (Q1F (fun x12=>(((((W1 x12 (Q0 0))).bind fun v13=>((eqD v13 (Q0 name))).map fun v15=>(v13,v15))).map fun b14=>b14.2)) (fun x12=>(some x12)) Vv)) fun l=>∀ d ∈ l,Row h d:=by
   refine Q43 (by omega) (Qcz (fun d=>match d with | .tuple [.int a,_]=>decide (a = name) | _=>false) id (fun d hd=>?_) (fun _ _ _=>rfl) fun d hd=>?_)
   ·obtain ⟨a,c,rfl,_⟩:=hr d hd
    have:eqD (.int a) (.int name) = some (decide (a = name)):=QgK a name
    show ((eqD (.int a) (.int name)).map fun v15=>((Q0 a:D),v15)).map (fun b14=>b14.2) = _
    rw [this]
    rfl
   ·rw [X9] at hd
    exact hr d (List.mem_filter.mp hd).1
  rw [el,Q1]
  have es:∃ q,eqD ((eLi eD) l) ((eLi eD) ([])) = some q:=by
   have q:=Qb7 l hl'
   have s1:shp ((eLi eD) l) = true:=by
    unfold shp eLi
    have:l.map eD = l:=List.map_id' _
    rw [this]
    rw [Q5]
    exact ⟨by simpa only [PyData.plain] using q.1,decide_eq_true (by simp only [X6]; have:=q.2; omega)⟩
   have s2:shp ((eLi eD) ([])) = true:=rfl
   unfold eqD
   rw [s1,s2]
   exact ⟨_,rfl⟩
  obtain ⟨q,eq⟩:=es
  rw [eq]
  simp only [Qi]
  refine Y5 ?_
  refine Ks (fun _=>?_) (fun _=>Y5 same)
  have hml:=i.ml
  refine Xn (Q9k (by omega) (Y5 ?_))
  have mm:=MI.more i ef hmr hm1 (.inr c2')
  exact hP _ _ mm.1 (fun gs o=>o.put _ _) mm.2
 ·simp only [decide_eq_false c1,if_false,Qx]
  exact Y5 (by simpa using Y5 same)
structure LI (h b:Int) (n:Nat) (s:Dk × Mo × List Int × List Int):Prop where
 ok:s.1.cs.length ≤ 63
 fu:s.2.2.2.length < n
 nd:s.2.2.2.Nodup
 sp:∀ x ∈ s.2.2.2,3 ≤ x ∧ x ≤ h ∧ x ∉ ks s.2.1
 mi:MI h b (60 - 4 * (s.2.2.2.length:Int)) s.2.1
 fo:FO s.2.1 (2 :: s.2.2.1)
 f0:0 < s.2.2.1.length
 f8:s.2.2.1.length + s.2.2.2.length ≤ 8
 m8:s.2.1.length + s.2.2.2.length ≤ 8
theorem QfU {xs:List Int} (nd:xs.Nodup) {i:Nat} (hi:i < xs.length):(xs.eraseIdx i).Nodup ∧ (∀ x ∈ xs.eraseIdx i,x ∈ xs) ∧ xs[i]'hi ∉ xs.eraseIdx i:=by
 refine ⟨nd.sublist (List.eraseIdx_sublist ..),fun x hx=>(List.eraseIdx_sublist ..).mem hx,fun q=>?_⟩
 obtain ⟨j,hj,hne,e⟩:=List.mem_eraseIdx_iff_getElem.mp q
 exact hne ((List.getElem_inj nd).mp e)
theorem Qfw {k:Dk} {h b:Int} (hk:k.cs.length ≤ 63) (h2:2 ≤ h) (h8:h ≤ 8) (b3:3 ≤ b) {P:Mo × Dk → Prop} (hP:∀ m k',MI h b 60 m → k'.cs.length ≤ 63 → P (m,k')):Wt (Q3W k h b) P:=by
 unfold Q3W W0
 repeat (first | (with_reducible refine Xn ?_) | (with_reducible refine Y4 ?_) | (with_reducible refine Yy ?_) | (with_reducible refine Yf (by assumption) (by omega) (by omega) ?_; intro _ _ _ _ _; dsimp only))
 refine Qfh (by omega) (by omega) (by omega) (by omega) ?_
 repeat (first | (with_reducible refine Xn ?_) | (with_reducible refine Y4 ?_) | (with_reducible refine Yy ?_) | (with_reducible refine Yf (by assumption) (by omega) (by omega) ?_; intro _ _ _ _ _; dsimp only))
 refine QaJ (LI h b) (P:=fun s=>Wt (some (s.2.1,s.1)) P) ?_ ?_
 ·refine ⟨hk,?_,QbE _ _,?_,?_,?_,by simp,?_,?_⟩
  ·simp only [Wj]; omega
  ·intro x hx
   have:=Qb0 hx
   refine ⟨by omega,by omega,?_⟩
   simp [ks]
   omega
  ·refine MI.mon (L:=0) ⟨?_,?_,?_,?_,?_,?_,?_,?_⟩ (by simp only [Wj]; omega)
   ·simp [ks]
   ·simp [ks]
   ·simp [ks]
   ·intro x hx
    simp [ks] at hx
    omega
   ·intro p hp
    simp at hp
    rcases hp with rfl | rfl <;> exact .inl ⟨rfl,fun d hd=>nomatch hd⟩
   ·intro p hp
    simp at hp
    rcases hp with rfl | rfl <;> simp
   ·have:sm [(1,(2,[])),(2,(2,[]))] (ks [(1,(2,[])),(2,(2,[]))]) = 0:=rfl
    rw [this]
    omega
   ·simp
  ·intro f hf
   simp at hf
   rcases hf with rfl | rfl <;> exact ⟨[],rfl⟩
  ·simp only [Wj,Qh,Qw]; omega
  ·simp only [Wj,Qh,Qw]; omega
 ·rintro n ⟨k,m,fs,sp⟩ ⟨ok,fu,nd,hsp,mi,fo,f0,f8,m8⟩
  dsimp only at ok fu nd hsp mi fo f0 f8 m8
  refine Y5 ?_
  by_cases c:sp = []
  ·rw [if_neg (by simp [c])]
   exact ⟨by omega,Y5 (hP _ _ (mi.mon (by omega)) ok)⟩
  ·rw [if_pos (by simp [c])]
   have sp0:0 < sp.length:=List.length_pos_iff.mpr c
   obtain ⟨n,rfl⟩:∃ n',n = n' + 1:=⟨n - 1,by omega⟩
   refine ⟨n,rfl,?_⟩
   dsimp only
   repeat (first | (with_reducible refine Xn ?_) | (with_reducible refine Y4 ?_) | (with_reducible refine Yy ?_) | (with_reducible refine Yf (by assumption) (by omega) (by omega) ?_; intro _ _ _ _ _; dsimp only))
   rename_i r0 kr hr0 hr1 hkr
   refine Qbd hr0 hr1 (by omega) fun hh=>?_
   obtain ⟨e1,e2,e3⟩:=QfU nd hh
   have e4:=List.length_eraseIdx_of_lt hh
   have hx:=hsp _ (Xg hh)
   revert e1 e2 e3 e4 hx
   generalize sp[r0.toNat]'hh = x
   generalize sp.eraseIdx r0.toNat = sp'
   intro e1 e2 e3 e4 hx
   dsimp only
   repeat (first | (with_reducible refine Xn ?_) | (with_reducible refine Y4 ?_) | (with_reducible refine Yy ?_) | (with_reducible refine Yf (by assumption) (by omega) (by omega) ?_; intro _ _ _ _ _; dsimp only))
   rename_i way kw hw0 hw1 hkw
   refine Q9Z hkw (by simp) (by simp) fun t ht k3 hk3=>?_
   dsimp only
   repeat (first | (with_reducible refine Xn ?_) | (with_reducible refine Y4 ?_) | (with_reducible refine Yy ?_) | (with_reducible refine Yf (by assumption) (by omega) (by omega) ?_; intro _ _ _ _ _; dsimp only))
   refine Q9Z hk3 f0 (by omega) fun f hf k4 hk4=>?_
   dsimp only
   have hsp':∀ y ∈ sp',3 ≤ y ∧ y ≤ h ∧ y ∉ ks m:=fun y hy=>hsp y (e2 y hy)
   refine Ks (fun _=>?_) (fun _=>?_)
   ·refine Y5 ⟨hk4,?_,e1,hsp',mi.mon ?_,fo,f0,?_,?_⟩ <;> dsimp only <;> omega
   ·repeat (first | (with_reducible refine Xn ?_) | (with_reducible refine Y4 ?_) | (with_reducible refine Yy ?_) | (with_reducible refine Yf (by assumption) (by omega) (by omega) ?_; intro _ _ _ _ _; dsimp only))
    rename_i n13 k13 hn0 hn1 hk13
    refine Q5A (by omega) (by omega) ?_
    dsimp only
    repeat (first | (with_reducible refine Xn ?_) | (with_reducible refine Y4 ?_) | (with_reducible refine Yy ?_) | (with_reducible refine Yf (by assumption) (by omega) (by omega) ?_; intro _ _ _ _ _; dsimp only))
    refine Q43 (by rw [Wj]; omega) (Q5o (fun y=>0 ≤ y ∧ y < 100) (fun _ s=>s.cs.length ≤ 63) hk13 (fun y ys s hs=>?_) fun ws k5 hws hw100 hk5=>?_)
    ·repeat (first | (with_reducible refine Xn ?_) | (with_reducible refine Y4 ?_) | (with_reducible refine Yy ?_) | (with_reducible refine Yf (by assumption) (by omega) (by omega) ?_; intro _ _ _ _ _; dsimp only))
     exact ⟨⟨by assumption,by assumption⟩,by assumption⟩
    ·rw [Wj] at hws
     dsimp only
     repeat (first | (with_reducible refine Xn ?_) | (with_reducible refine Y4 ?_) | (with_reducible refine Yy ?_) | (with_reducible refine Yf (by assumption) (by omega) (by omega) ?_; intro _ _ _ _ _; dsimp only))
     have hv:Wt (if decide (way < 3) = true then some ((2:Int),([]:List D)) else (Q2m m b).map fun r27=>(1,List.map Q0 (Yn ws none (some (4 * r27))))) (fun v=>((v.1 = 2 ∧ v.2 = []) ∨ (v.1 = 1 ∧ ∀ d ∈ v.2,∃ a:Int,d = .int a ∧ 0 ≤ a ∧ a ≤ 100)) ∧ (v.2.length:Int) ≤ 12 ∧ sm m (ks m) + Q1U v.1 v.2 ≤ b - 3 ∧ (way < 3 → v = (2,[]))):=by
      have lf:=mi.lf
      refine Ks (fun _=>Y5 ⟨.inl ⟨rfl,rfl⟩,by simp,?_,fun _=>rfl⟩) (fun c=>?_)
      ·have:Q1U 2 [] = 0:=rfl
       dsimp only
       rw [this]
       omega
      ·rw [QcO mi]
       refine ⟨_,rfl,.inr ⟨rfl,fun d hd=>?_⟩,?_,?_,fun q=>?_⟩
       ·obtain ⟨a,ha,rfl⟩:=Qy.mp hd
        have:=hw100 a (Qcx ha)
        exact ⟨a,rfl,by omega,by omega⟩
       ·dsimp only
        rw [Q1y (by omega),Q4,Jr]
        omega
       ·unfold Q1U
        dsimp only
        rw [Q1y (by omega),Q4,Jr]
        omega
       ·exact absurd q (by simpa using c)
     refine hv.mon fun v hv=>?_
     obtain ⟨v1,v2,v3,v4⟩:=hv
     repeat (first | (with_reducible refine Xn ?_) | (with_reducible refine Y4 ?_) | (with_reducible refine Yy ?_) | (with_reducible refine Yf (by assumption) (by omega) (by omega) ?_; intro _ _ _ _ _; dsimp only))
     refine Q9k (by omega) ?_
     obtain ⟨mu,kk⟩:=mi.new (v:=v) hx.2.2 hx.1 hx.2.1 v1 (by omega) v3 (by omega)
     have fu1:FO (Q01 m x v) (2 :: if way < 3 then fs ++ [x] else fs):=by
      have f1:FO (Q01 m x v) (2 :: fs):=fo.new hx.2.2
      split
      ·rename_i c3
       intro g hg
       by_cases cg:g ∈ 2 :: fs
       ·exact f1 g cg
       ·have:g = x:=by
         rcases Qg.mp hg with q | q
         ·exact absurd (Qg.mpr (.inl q)) cg
         ·rcases Qc.mp q with q | q
          ·exact absurd (Qg.mpr (.inr q)) cg
          ·exact Qr.mp q
        subst this
        rw [Q1u,if_pos rfl,v4 c3]
        exact ⟨_,rfl⟩
      ·exact f1
     have lu:=Q7w m x v
     revert mu kk fu1 lu
     generalize Q01 m x v = u
     intro mu kk fu1 lu
     have sub:∀ g ∈ 2 :: fs,g ∈ 2 :: if way < 3 then fs ++ [x] else fs:=by
      intro g hg
      split
      ·rcases Qg.mp hg with q | q
       ·exact Qg.mpr (.inl q)
       ·exact Qg.mpr (.inr (Qc.mpr (.inl q)))
      ·exact hg
     revert fu1 sub
     generalize hgs:(2 :: if way < 3 then fs ++ [x] else fs) = gs
     intro fu1 sub
     repeat (first | (with_reducible refine Xn ?_) | (with_reducible refine Y4 ?_) | (with_reducible refine Yy ?_) | (with_reducible refine Yf (by assumption) (by omega) (by omega) ?_; intro _ _ _ _ _; dsimp only))
     rename_i r99 k6 hr0 hr1 hk6
     have hent:Wt (if (!decide (way = 5)) = true then (Q1l u b f (1 + r99) x).map fun r34=>(r34.1,r34.2) else some (false,u)) (fun r=>MI h b (60 - 4 * (sp.length:Int) + 1) r.2 ∧ FO r.2 gs ∧ ks r.2 = ks u):=by
      refine Ks (fun _=>Y4 (Qbr mu fu1 (sub f (Q6 _ hf)) (by omega) hx.2.1 (by omega) (by omega) (by omega) fun ok m' a1 a2 a3=>⟨a1,a2 _ fu1,a3⟩)) (fun _=>Y5 ⟨mu.mon (by omega),fu1,rfl⟩)
     refine hent.mon fun r hr=>?_
     obtain ⟨okb,m2⟩:=r
     obtain ⟨a1,a2,a3⟩:=hr
     dsimp only at a1 a2 a3 ⊢
     repeat (first | (with_reducible refine Xn ?_) | (with_reducible refine Y4 ?_) | (with_reducible refine Yy ?_) | (with_reducible refine Yf (by assumption) (by omega) (by omega) ?_; intro _ _ _ _ _; dsimp only))
     have hand:Wt (if (!okb) = true then ((((((Z0 m2 2)).bind fun v39=>(Wg v39.2 ([((eP2 Q0 Q0) (x,x))])).map fun v41=>(v39,v41))).bind fun b40=>((Q7S b40.2)).map fun v43=>(b40,v43))).bind fun b42=>(Q5E m2 2 (2,b42.2)).bind fun u44=>(some u44) else (some m2)) (fun m3=>MI h b (60 - 4 * (sp.length:Int) + 1 + 1) m3 ∧ FO m3 gs ∧ ks m3 = ks u):=by
      refine Ks (fun _=>?_) (fun _=>Y5 ⟨a1.mon (by omega),a2,a3⟩)
      obtain ⟨Vv,er⟩:=a2 2 (sub 2 (Q7 ..))
      have hm:=Q0R er
      have hl:=a1.len _ hm
      dsimp only at hl
      have hr:∀ d ∈ Vv,Row h d:=by
       rcases a1.ent _ hm with ⟨_,q⟩ | ⟨q,_⟩
       ·exact q
       ·exact absurd (show (2:Int) = 1 from q) (by decide)
      have hr2:∀ d ∈ Vv ++ [((eP2 Q0 Q0) (x,x))],Row h d:=by
       intro d hd
       rcases Qc.mp hd with hd | hd
       ·exact hr d hd
       ·rw [Qr] at hd
        subst hd
        exact ⟨_,_,rfl,by omega,hx.2.1,by omega,by omega⟩
      rw [er]
      simp only [Q1]
      repeat (first | (with_reducible refine Xn ?_) | (with_reducible refine Y4 ?_) | (with_reducible refine Yy ?_) | (with_reducible refine Yf (by assumption) (by omega) (by omega) ?_; intro _ _ _ _ _; dsimp only))
      refine Q4z (by simp; omega) ?_
      repeat (first | (with_reducible refine Xn ?_) | (with_reducible refine Y4 ?_) | (with_reducible refine Yy ?_) | (with_reducible refine Yf (by assumption) (by omega) (by omega) ?_; intro _ _ _ _ _; dsimp only))
      refine Qcq hr2 fun more pm=>?_
      have hm1:(more.length:Int) ≤ 60 - 4 * (sp.length:Int) + 1 + 1:=by rw [pm.length_eq,Qb]; simp; omega
      have hmr:∀ d ∈ more,Row h d:=fun d hd=>hr2 d (pm.mem_iff.mp hd)
      have hml:=a1.ml
      dsimp only
      repeat (first | (with_reducible refine Xn ?_) | (with_reducible refine Y4 ?_) | (with_reducible refine Yy ?_) | (with_reducible refine Yf (by assumption) (by omega) (by omega) ?_; intro _ _ _ _ _; dsimp only))
      refine Q9k (by omega) (Y5 ?_)
      have mm:=MI.more a1 er hmr hm1 (.inl rfl)
      exact ⟨mm.1,a2.put _ _,mm.2.trans a3⟩
     refine hand.mon fun m3 hm3=>?_
     obtain ⟨c1,c2,c3⟩:=hm3
     repeat (first | (with_reducible refine Xn ?_) | (with_reducible refine Y4 ?_) | (with_reducible refine Yy ?_) | (with_reducible refine Yf (by assumption) (by omega) (by omega) ?_; intro _ _ _ _ _; dsimp only))
     have ht':1 ≤ t ∧ t ≤ 3:=by simp at ht; omega
     refine QeR (.inl (QcA (by omega) (by omega))) ?_
     have hbo:0 ≤ (t - 1) * boI (decide (2 < way)) ∧ (t - 1) * boI (decide (2 < way)) ≤ 2:=by
      unfold boI
      split <;> omega
     revert hbo
     generalize (t - 1) * boI (decide (2 < way)) = tt
     intro hbo
     repeat (first | (with_reducible refine Xn ?_) | (with_reducible refine Y4 ?_) | (with_reducible refine Yy ?_) | (with_reducible refine Yf (by assumption) (by omega) (by omega) ?_; intro _ _ _ _ _; dsimp only))
     refine Q5A (by omega) (by omega) ?_
     dsimp only
     repeat (first | (with_reducible refine Xn ?_) | (with_reducible refine Y4 ?_) | (with_reducible refine Yy ?_) | (with_reducible refine Yf (by assumption) (by omega) (by omega) ?_; intro _ _ _ _ _; dsimp only))
     refine Q3x (fun xs s=>s.1.cs.length ≤ 63 ∧ xs.length ≤ 2 ∧ MI h b (60 - 4 * (sp.length:Int) + 4 - (xs.length:Int)) s.2 ∧ FO s.2 gs ∧ ks s.2 = ks u) ⟨hk6,by rw [Wj]; omega,c1.mon (by rw [Wj]; omega),c2,c3⟩ (fun y ys s hs=>?_) (fun s hs=>?_)
     ·obtain ⟨d1,d2,d3,d4,d5⟩:=hs
      rw [Qh] at d2 d3
      repeat (first | (with_reducible refine Xn ?_) | (with_reducible refine Y4 ?_) | (with_reducible refine Yy ?_) | (with_reducible refine Yf (by assumption) (by omega) (by omega) ?_; intro _ _ _ _ _; dsimp only))
      refine Q9Z d1 f0 (by omega) fun f2 hf2 k7 hk7=>?_
      dsimp only
      repeat (first | (with_reducible refine Xn ?_) | (with_reducible refine Y4 ?_) | (with_reducible refine Yy ?_) | (with_reducible refine Yf (by assumption) (by omega) (by omega) ?_; intro _ _ _ _ _; dsimp only))
      refine Qbr d3 d4 (sub f2 (Q6 _ hf2)) (by omega) hx.2.1 (by omega) (by omega) (by omega) fun ok m' a1 a2 a3=>?_
      refine Y5 ⟨by assumption,by omega,a1.mon (by omega),a2 _ d4,a3.trans d5⟩
     ·obtain ⟨d1,d2,d3,d4,d5⟩:=hs
      have hfo:Wt (if decide (way < 3) = true then (QfE fs x).bind fun p56=>some p56 else some fs) (fun fs'=>2 :: fs' = gs ∧ 0 < fs'.length ∧ fs'.length ≤ fs.length + 1):=by
       refine Ks (fun c=>?_) (fun c=>Y5 ⟨?_,f0,by omega⟩)
       ·refine Xn (QiE (by omega) (Y5 ⟨?_,by simp,by simp⟩))
        rw [← hgs,if_pos (of_decide_eq_true c)]
       ·rw [← hgs,if_neg (of_decide_eq_false c)]
      refine Xn (hfo.mon fun fs' hfs=>Y5 ?_)
      obtain ⟨g1,g2,g3⟩:=hfs
      have hlen:s.2.length ≤ m.length + 1:=by
       have:(ks s.2).length = (ks u).length:=by rw [d5]
       unfold ks at this
       rw [Q4,Q4] at this
       omega
      refine ⟨d1,?_,e1,?_,?_,?_,g2,?_,?_⟩
      ·dsimp only; omega
      ·intro y hy
       refine ⟨(hsp' y hy).1,(hsp' y hy).2.1,?_⟩
       dsimp only
       rw [d5,kk]
       intro q
       rcases Qc.mp q with q | q
       ·exact (hsp' y hy).2.2 q
       ·rw [Qr] at q
        subst q
        exact e3 hy
      ·refine d3.mon ?_
       simp only [Qw]
       omega
      ·dsimp only
       rw [g1]
       exact d4
      ·dsimp only; omega
      ·dsimp only; omega
structure GI (h b:Int) (m:Mo) (g:List (Int × List Int)):Prop where
 has:∀ x ∈ ks m,x ∈ g.map (·.1)
 ok:∀ p ∈ g,p.2.length ≤ 12 ∧ ∀ y ∈ p.2,1 ≤ y ∧ y ≤ b
theorem QeT {k:Dk} {h b:Int} {m:Mo} (hk:k.cs.length ≤ 63) (i:MI h b 60 m) (b3:3 ≤ b) (b12:b ≤ 12) {P:List (Int × List Int) × Dk → Prop} (hP:∀ g k',GI h b m g → k'.cs.length ≤ 63 → P (g,k')):Wt (Q3S k m b) P:=by
 have hml:=i.ml
 unfold Q3S W0
 repeat (first | (with_reducible refine Xn ?_) | (with_reducible refine Y4 ?_) | (with_reducible refine Yy ?_) | (with_reducible refine Yf (by assumption) (by omega) (by omega) ?_; intro _ _ _ _ _; dsimp only))
 refine Qfh (by omega) (by omega) (by omega) (by omega) ?_
 repeat (first | (with_reducible refine Xn ?_) | (with_reducible refine Y4 ?_) | (with_reducible refine Yy ?_) | (with_reducible refine Yf (by assumption) (by omega) (by omega) ?_; intro _ _ _ _ _; dsimp only))
 refine QeX (by omega) fun xs pm=>?_
 have hlen:xs.length = m.length:=by rw [pm.length_eq,Q4]
 repeat (first | (with_reducible refine Xn ?_) | (with_reducible refine Y4 ?_) | (with_reducible refine Yy ?_) | (with_reducible refine Yf (by assumption) (by omega) (by omega) ?_; intro _ _ _ _ _; dsimp only))
 refine Q3x (fun ys s=>s.1.cs.length ≤ 63 ∧ s.2.1.length ≤ 12 ∧ (∀ z ∈ s.2.1,1 ≤ z ∧ z ≤ b) ∧ sm m ys ≤ s.2.1.length ∧ (∀ y ∈ ys,y ∈ ks m) ∧ (∀ x ∈ ks m,x ∈ ys ∨ x ∈ s.2.2.map (·.1)) ∧ (∀ p ∈ s.2.2,p.2.length ≤ 12 ∧ ∀ y ∈ p.2,1 ≤ y ∧ y ≤ b) ∧ s.2.2.length + ys.length ≤ 100 ∧ 2 ∈ s.2.2.map (·.1)) ⟨hk,?_,?_,?_,?_,?_,?_,?_,?_⟩ (fun y ys s hs=>?_) (fun s hs=>?_)
 ·simp only [Wj]; omega
 ·intro z hz
  have:=Qb0 hz
  omega
 ·rw [Qhc m pm]
  have:=i.lf
  simp only [Wj]
  show sm m (ks m) ≤ _
  omega
 ·intro y hy
  exact pm.mem_iff.mp hy
 ·intro y hy
  exact .inl (pm.mem_iff.mpr hy)
 ·intro p hp
  simp at hp
  subst hp
  refine ⟨by simp,fun y hy=>?_⟩
  simp at hy
  omega
 ·simp only [Qh,Qw]; omega
 ·simp
 ·obtain ⟨k1,sp,g⟩:=s
  obtain ⟨a1,a2,a3,a4,a5,a6,a7,a8,a9⟩:=hs
  dsimp only at a1 a2 a3 a4 a5 a6 a7 a8 a9 ⊢
  rw [Qh] at a8
  rw [Zz] at a4
  have hnn:0 ≤ sm m ys:=by
   clear a4 a5 a6 a8
   induction ys with
   | nil=>rw [QfX]; omega
   | cons z zs ih =>
    rw [Zz]
    have:=i.nk_nn z
    split <;> omega
  refine Xn (Ks (fun c=>?_) (fun c=>?_))
  ·have c2:y ≠ 2:=by simpa using c
   rw [if_neg c2] at a4
   obtain ⟨v,ev⟩:=Q7n (a5 y (Q7 ..))
   have hkd:=i.kind (Q0R ev)
   dsimp only at hkd
   have en:=Q78 ev
   have nn:=i.nk_nn y
   rw [ev]
   simp only [Q1,Qi]
   rw [Q59 (by omega) (by omega),← en]
   simp only [Q1,Qi]
   repeat (first | (with_reducible refine Xn ?_) | (with_reducible refine Y4 ?_) | (with_reducible refine Yy ?_) | (with_reducible refine Yf (by assumption) (by omega) (by omega) ?_; intro _ _ _ _ _; dsimp only))
   refine Q5A (by omega) (by omega) ?_
   repeat (first | (with_reducible refine Xn ?_) | (with_reducible refine Y4 ?_) | (with_reducible refine Yy ?_) | (with_reducible refine Yf (by assumption) (by omega) (by omega) ?_; intro _ _ _ _ _; dsimp only))
   refine Q43 (by rw [Wj]; omega) (Q5o (fun z=>1 ≤ z ∧ z ≤ b) (fun zs s=>s.1.cs.length ≤ 63 ∧ (∀ z ∈ s.2,1 ≤ z ∧ z ≤ b) ∧ s.2.length ≤ 12 ∧ (zs.length:Int) + sm m ys ≤ s.2.length) ⟨a1,a3,a2,by dsimp only; rw [Wj]; omega⟩ (fun z zs s hs=>?_) fun ws s hws hq hs=>?_)
   ·obtain ⟨b1,b2,b3',b4⟩:=hs
    rw [Qh] at b4
    repeat (first | (with_reducible refine Xn ?_) | (with_reducible refine Y4 ?_) | (with_reducible refine Yy ?_) | (with_reducible refine Yf (by assumption) (by omega) (by omega) ?_; intro _ _ _ _ _; dsimp only))
    rename_i r0 kr hr0 hr1 hkr
    refine Qbd hr0 hr1 (by omega) fun hh=>?_
    have e4:=List.length_eraseIdx_of_lt hh
    refine ⟨b2 _ (Xg hh),hkr,fun z hz=>b2 z ((List.eraseIdx_sublist ..).mem hz),?_,?_⟩ <;> dsimp only <;> omega
   ·obtain ⟨b1,b2,b3',b4⟩:=hs
    rw [Wj] at hws
    simp only [Qw] at b4
    dsimp only
    repeat (first | (with_reducible refine Xn ?_) | (with_reducible refine Y4 ?_) | (with_reducible refine Yy ?_) | (with_reducible refine Yf (by assumption) (by omega) (by omega) ?_; intro _ _ _ _ _; dsimp only))
    refine Q9k (by omega) (Y5 (Y5 ?_))
    have hl:=Q7w g y ws
    refine ⟨b1,b3',b2,by dsimp only; omega,fun z hz=>a5 z (Q6 _ hz),fun z hz=>?_,fun p hp=>?_,by dsimp only; omega,Q7t _ _ _ (.inr a9)⟩
    ·rcases a6 z hz with q | q
     ·rcases Qg.mp q with rfl | q
      ·exact .inr (Q7t _ _ _ (.inl rfl))
      ·exact .inl q
     ·exact .inr (Q7t _ _ _ (.inr q))
    ·rcases Q3E hp with rfl | hp
     ·exact ⟨by dsimp only; omega,hq⟩
     ·exact a7 p hp
  ·have c2:y = 2:=by simpa using c
   rw [if_pos c2] at a4
   refine Y5 (Y5 ⟨a1,a2,a3,by dsimp only; omega,fun z hz=>a5 z (Q6 _ hz),fun z hz=>?_,a7,by dsimp only; omega,a9⟩)
   rcases a6 z hz with q | q
   ·rcases Qg.mp q with q | q
    ·exact .inr (by rw [q,c2]; exact a9)
    ·exact .inl q
   ·exact .inr q
 ·obtain ⟨a1,a2,a3,a4,a5,a6,a7,a8,a9⟩:=hs
  refine Y5 (hP _ _ ⟨fun x hx=>?_,a7⟩ a1)
  rcases a6 x hx with q | q
  ·exact nomatch q
  ·exact q
theorem Q6c {f:D → Option τ} (Q:τ → Prop):∀ ds:List D,(∀ d ∈ ds,∃ y,f d = some y ∧ Q y) → ∃ ys,List.mapM f ds = some ys ∧ ys.length = ds.length ∧ ∀ y ∈ ys,Q y
 | [],_=>⟨[],rfl,rfl,fun _ h=>nomatch h⟩
 | d :: ds,h=>by
  obtain ⟨y,e,q⟩:=h d (Q7 ..)
  obtain ⟨ys,e2,l,qs⟩:=Q6c Q ds fun x hx=>h x (Q6 _ hx)
  refine ⟨y :: ys,?_,by simp [l],fun z hz=>?_⟩
  ·rw [List.mapM_cons,e,e2]
   rfl
  ·rcases Qg.mp hz with rfl | hz
   ·exact q
   ·exact qs z hz
theorem Qgd {α:Type} (xs:List α) {a b:Int} (h:0 ≤ a) (h2:a ≤ b):((Yn xs (some a) (some b)).length:Int) ≤ b - a:=by
 obtain ⟨n,rfl⟩:=Jy h
 obtain ⟨m,rfl⟩:=Jy (show 0 ≤ b by omega)
 rw [QcM,Jr]
 omega
theorem Qfl:∀ xs:List Int,(∀ x ∈ xs,0 ≤ x ∧ x ≤ 100) → 0 ≤ xs.sum ∧ xs.sum ≤ 100 * (xs.length:Int)
 | [],_=>⟨by simp,by simp⟩
 | x :: xs,h=>by
  have a:=h x (Q7 ..)
  have b:=Qfl xs fun y hy=>h y (Q6 _ hy)
  rw [List.sum_cons,Qh]
  omega
theorem Q2Q {xs:List Int} {i:Nat} {v M:Int} (h:∀ c ∈ xs,0 ≤ c ∧ c ≤ M) (h0:0 ≤ v) (h1:v ≤ M):∀ c ∈ xs.set i v,0 ≤ c ∧ c ≤ M:=fun c hc=>by
 rcases List.mem_or_eq_of_mem_set hc with hc | rfl
 ·exact h c hc
 ·exact ⟨h0,h1⟩
theorem QbU {xs:List Int} {M M':Int} (h:∀ c ∈ xs,0 ≤ c ∧ c ≤ M) (hM:M ≤ M'):∀ c ∈ xs,0 ≤ c ∧ c ≤ M':=fun c hc=>by have:=h c hc; omega
theorem Qgh {h b:Int} {m:Mo} {g:List (Int × List Int)} (i:MI h b 60 m) (gi:GI h b m g) (h2:2 ≤ h) (h8:h ≤ 8) (b3:3 ≤ b) (b12:b ≤ 12) {P:St → Prop} (hP:∀ s,WF s → Bd 100000 s → P s):Wt (Q5p h b m g) P:=by
 have hml:=i.ml
 unfold Q5p W0
 refine Xn (QjD (by omega) (by omega) ?_)
 refine Xn (Q3x (fun ys (s:List Int)=>(∀ y ∈ ys,y ∈ ks m) ∧ ys.length ≤ 8 ∧ (s.length:Int) = 7 * h + 5 * b + 82 ∧ ∀ c ∈ s,0 ≤ c ∧ c ≤ 100000 - 100 * (ys.length:Int)) ⟨fun _ h=>h,by rw [Q4]; exact hml,by rw [Ju]; omega,fun c hc=>by rw [List.eq_of_mem_replicate hc,Q4]; omega⟩ (fun x xs cs hcs=>?_) (fun s hs=>?_))
 ·obtain ⟨hmem,h88,hcs,hbd⟩:=hcs
  rw [Qh] at h88 hbd
  have hx:=hmem x (Q7 ..)
  have hxb:=i.kb x hx
  refine Xn (Qg9 hx fun v ev hv=>?_)
  have hl:=i.len _ hv
  have hkd:=i.kind hv
  dsimp only at hl hkd
  have hrow:∃ c7:List Int,(List.mapM asI (if (decide (v.1 = 1)) then v.2 else [])) = some c7 ∧ (c7.length ≤ 60 ∧ ∀ y ∈ c7,0 ≤ y ∧ y ≤ 100) ∧ ∃ v8:List (Int × Int),(List.mapM (Qe5 asI asI) (if (decide (v.1 = 2)) then v.2 else [])) = some v8 ∧ v8.length ≤ 60 ∧ ∀ p ∈ v8,1 ≤ p.2 ∧ p.2 ≤ h ∧ 0 ≤ p.1 ∧ p.1 ≤ 100:=by
   rcases i.ent _ hv with ⟨e,q⟩ | ⟨e,q⟩
   ·dsimp only at e q
    obtain ⟨ys,e2,l,qs⟩:=Q6c (f:=Qe5 asI asI) (fun p=>1 ≤ p.2 ∧ p.2 ≤ h ∧ 0 ≤ p.1 ∧ p.1 ≤ 100) v.2 (fun d hd=>by
     obtain ⟨a,c,rfl,c1,c2,c3,c4⟩:=q d hd
     exact ⟨(a,c),rfl,c1,c2,c3,c4⟩)
    refine ⟨[],?_,⟨by simp,fun _ h=>nomatch h⟩,ys,?_,by omega,qs⟩
    ·rw [if_neg (by rw [e]; decide)]; rfl
    ·rw [if_pos (by rw [e]; decide)]; exact e2
   ·dsimp only at e q
    obtain ⟨ys,e2,l,qs⟩:=Q6c (f:=asI) (fun y=>0 ≤ y ∧ y ≤ 100) v.2 (fun d hd=>by
     obtain ⟨a,rfl,a0,a1⟩:=q d hd
     exact ⟨a,rfl,a0,a1⟩)
    refine ⟨ys,?_,⟨by omega,qs⟩,[],?_,by simp,fun _ h=>nomatch h⟩
    ·rw [if_pos (by rw [e]; decide)]; exact e2
    ·rw [if_neg (by rw [e]; decide)]; rfl
  obtain ⟨c7,e7,⟨l7,b7⟩,v8,e8,l8,q8⟩:=hrow
  refine Xn ⟨c7,e7,?_⟩
  refine Xn ⟨v8,e8,?_⟩
  refine Xn (Q3x (fun ys (s:List Int × List Int)=>(s.1.length:Int) = 7 * h + 5 * b + 82 ∧ s.2.length + 2 * ys.length ≤ 200 ∧ (∀ y ∈ ys,y ∈ v8) ∧ (∀ c ∈ s.1,0 ≤ c ∧ c ≤ 100000 - 100 * (xs.length:Int) - 40 - (ys.length:Int)) ∧ ∀ y ∈ s.2,0 ≤ y ∧ y ≤ 100) ⟨hcs,by dsimp only; omega,fun _ h=>h,QbU hbd (by omega),b7⟩ (fun y ys s hs=>?_) (fun s hs=>?_))
  ·obtain ⟨a1,a2,a3,a4,a5⟩:=hs
   rw [Qh] at a2 a4
   have hy:=q8 y (a3 y (Q7 ..))
   refine Xn (Qix (by simp; omega) ?_)
   refine Xn (Q2W (by omega) (by omega) fun t ht=>?_)
   have ht':=a4 t ht
   refine Xn (Q3b (by omega) (by omega) (Y5 ⟨?_,?_,fun z hz=>a3 z (Q6 _ hz),Q2Q (QbU a4 (by omega)) (by omega) (by omega),fun z hz=>?_⟩))
   ·rw [Qv]; exact a1
   ·rw [Qb]; simp; omega
   ·rcases Qc.mp hz with hz | hz
    ·exact a5 z hz
    ·simp only [Qg,Qu,or_false] at hz
     omega
  ·obtain ⟨a1,a2,a3,a4,a5⟩:=hs
   simp only [Qw] at a2 a4
   have hsum:=Qfl s.2 a5
   have a6:∀ c ∈ s.1,0 ≤ c ∧ c ≤ 100000 - 100 * (xs.length:Int):=QbU a4 (by omega)
   refine Xn (Q3b (by omega) (by omega) ?_)
   refine Xn (Q3b (by omega) (by rw [Qv]; omega) ?_)
   refine Xn (Q3b (by omega) (by rw [Qv,Qv]; omega) ?_)
   refine Xn (Qg9 (gi.has x hx) fun bl eb hb=>?_)
   obtain ⟨hbl,hbk⟩:=gi.ok _ hb
   dsimp only at hbl hbk
   refine Xn (QcK (fun s:List Int=>(s.length:Int) = 7 * h + 5 * b + 82 ∧ ∀ c ∈ s,0 ≤ c ∧ c ≤ 100000 - 100 * (xs.length:Int)) ⟨by rw [Qv,Qv,Qv]; exact a1,Q2Q (Q2Q (Q2Q a6 (by omega) (by omega)) (by omega) (by omega)) (by omega) (by omega)⟩ (fun p hp cs2 hcs2=>?_) (fun s2 hs2=>Y5 ⟨fun z hz=>hmem z (Q6 _ hz),by omega,hs2.1,hs2.2⟩))
   obtain ⟨hcs2,hbd2⟩:=hcs2
   have hpe:=Qaq hp
   have hp2:=hbk _ hpe.2.2
   refine Xn (Q3b (by omega) (by omega) ?_)
   refine Xn (Q3b (by omega) (by rw [Qv]; omega) ?_)
   refine Xn (QcK (fun s:List Int=>(s.length:Int) = 7 * h + 5 * b + 82 ∧ ∀ c ∈ s,0 ≤ c ∧ c ≤ 100000 - 100 * (xs.length:Int)) ⟨by rw [Qv,Qv]; exact hcs2,Q2Q (Q2Q hbd2 (by omega) (by omega)) (by omega) (by omega)⟩ (fun q hq cs3 hcs3=>?_) (fun s3 hs3=>Y5 hs3))
   obtain ⟨hcs3,hbd3⟩:=hcs3
   have hqe:=Qaq hq
   have hc:=Qgd s.2 (a:=4 * p.1) (b:=4 * p.1 + 4) (by omega) (by omega)
   have hq5:=a5 _ (Qcx hqe.2.2)
   refine Xn (Q3b (by omega) (by omega) (Y5 ⟨?_,Q2Q hbd3 (by omega) (by omega)⟩))
   rw [Qv]
   exact hcs3
 ·exact Y5 (hP _ ⟨h2,h8,b3,b12,hs.2.2.1⟩ fun c hc=>by have:=hs.2.2.2 c hc; simp only [Qw] at this; omega)
theorem QfI {k:Dk} (hk:k.cs.length ≤ 63) {P:St × Dk → Prop} (hP:∀ s k',WF s → Bd 100000 s → k'.cs.length ≤ 63 → P (s,k')):Wt (Q3Q k) P:=by
 unfold Q3Q
 refine Xn (QeV hk fun h b k1 h2 h8 b3 b12 hk1=>?_)
 refine Xn (Qfw hk1 h2 h8 b3 fun m k2 mi hk2=>?_)
 refine Xn (Xn (QeT hk2 mi b3 b12 fun g k3 gi hk3=>?_))
 refine Y4 (Qgh mi gi h2 h8 b3 b12 fun s ws bs=>?_)
 exact Y5 (hP _ _ ws bs hk3)
structure SU (L m k:Nat) (d:D):Prop where
 s:d.showable = true
 n:d.hasDict = false
 l:d.leavesShort L = true
 dp:d.depth ≤ k
 b:d.bulk ≤ m
theorem SU.mon {L n k n' k':Nat} {d:D} (h:SU L n k d) (a:n ≤ n') (b:k ≤ k'):SU L n' k' d:=⟨h.s,h.n,h.l,J3 h.dp b,J3 h.b a⟩
theorem QbW {i:Int} (h:i.natAbs < 10 ^ 60):SU 61 0 0 (.int i):=by
 have hl:i ≠ 0 → i.natAbs.log2 < 200:=fun c=>(Nat.log2_lt (by omega)).mpr (Nat.lt_trans h (by decide))
 refine ⟨?_,rfl,?_,Jf _,Jf _⟩
 ·simp only [PyData.showable]
  by_cases c:i = 0
  ·subst c; decide
  ·have:=hl c; simp; omega
 ·simp only [PyData.leavesShort,decide_eq_true_eq]
  have e:=int_text_length_le10 (k:=60) (by decide) h
  show (Str.ofString (toString i)).length ≤ 61
  rw [PySem.ofString_length]
  omega
theorem Qeq {L n k:Nat}:∀ (ds:List D),(∀ d ∈ ds,SU L n k d) → PyData.showableAll ds = true ∧ PyData.hasDictAll ds = false ∧ PyData.leavesShortAll L ds = true ∧ Jc ds ≤ k ∧ PyData.bulkAll ds ≤ (n + 1) * ds.length
 | [],_=>⟨rfl,rfl,rfl,Jo _,Jo _⟩
 | d :: ds,h=>by
  obtain ⟨a1,a2,a3,a4,a5⟩:=Qeq ds fun x hx=>h x (Q6 _ hx)
  have hd:=h d (Q7 ..)
  refine ⟨?_,?_,?_,?_,?_⟩
  ·simp only [PyData.showableAll,hd.s,a1,Bool.and_true]
  ·simp only [PyData.hasDictAll,hd.n,a2,Bool.or_false]
  ·simp only [PyData.leavesShortAll,hd.l,a3,Bool.and_true]
  ·have:=hd.dp
   simp only [Jc]
   omega
  ·have:=hd.b
   simp only [PyData.bulkAll,Qh]
   rw [Nat.mul_add,Nat.mul_one]
   omega
theorem QaK {L m n k:Nat} {ds:List D} (h:∀ d ∈ ds,SU L n k d) (hn:ds.length ≤ m):SU L ((n + 1) * m) (k + 1) (.tuple ds):=by
 obtain ⟨a1,a2,a3,a4,a5⟩:=Qeq ds h
 refine ⟨by simpa only [PyData.showable] using a1,by simpa only [PyData.hasDict] using a2,by simpa only [PyData.leavesShort] using a3,?_,?_⟩
 ·simp only [X6]; omega
 ·simp only [PyData.bulk]
  exact J3 a5 (Nat.mul_le_mul_left _ hn)
theorem QfQ {L n:Nat} {d:D} {P:Str → Prop} (h:SU L n 64 d) (h8:8 ≤ L) (hw:(L + 2) * n + L ≤ 16777216) (p:P d.shown):Wt (Q52 d) P:=by
 have e1:=PyData.shown_le_bulk L h8 d h.l
 have e2:(L + 2) * d.bulk ≤ (L + 2) * n:=Nat.mul_le_mul_left _ h.b
 have e:d.shown.length ≤ sizeLine:=by rw [sizeLine_eq]; omega
 refine ⟨d.shown,?_,p⟩
 unfold Q52 Q6l
 rw [h.s,h.n,decide_eq_true e,decide_eq_true h.dp]
 rfl
theorem Qfs {st:St} (w:WF st):st.2.2.length ≤ 198:=by
 have ⟨q1,q2,q3,q4,q5⟩:=w
 omega
def Bg (st:St):Prop:=∀ c ∈ st.2.2,c.natAbs < 10 ^ 60
theorem Qem {st:St} (w:WF st) (g:Bg st) {P:Str → Prop} (p:P (eP3 Q0 Q0 (eTu Q0) st).shown):Wt (Q52 (eP3 Q0 Q0 (eTu Q0) st)) P:=by
 have ⟨q1,q2,q3,q4,q5⟩:=w
 have cb:=Qfs w
 refine QfQ (L:=61) (n:=199 * 3) ((QaK (m:=3) (n:=198) (k:=1) (fun d hd=>?_) (by simp)).mon (by omega) (by omega)) (by omega) (by omega) p
 simp only [Qg,Qu,or_false] at hd
 rcases hd with rfl | rfl | rfl
 ·exact (QbW (by omega)).mon (by omega) (by omega)
 ·exact (QbW (by omega)).mon (by omega) (by omega)
 ·refine (QaK (m:=198) (n:=0) (k:=0) (fun d hd=>?_) (by rw [Q4]; exact cb)).mon (by omega) (by omega)
  obtain ⟨i,hi,rfl⟩:=Qy.mp hd
  exact QbW (g i hi)
end K05
namespace K05
open PySem PySem.Spec PyProof.Rows L2 Z
variable {ι τ σ ρ:Type}
def NB:Int:=10 ^ 40 - 1
theorem Q8Q {k:Dk} {P:Int × Dk → Prop} (hk:k.cs.length ≤ 63) (hP:∀ v k',-NB ≤ v → v ≤ NB → k'.cs.length ≤ 63 → P (v,k')):Wt (Q1B k) P:=by
 unfold Q1B NB at *
 refine Xn (Yf hk (by omega) (by omega) fun w k1 w0 w1 hk1=>?_)
 refine Ks (fun _=>Xn (Yf hk1 (by omega) (by omega) fun a k2 a0 a1 hk2=>Y5 (hP _ _ (by dsimp only; omega) (by dsimp only; omega) hk2))) fun c4=>?_
 refine Ks (fun _=>Xn (Yf hk1 (by omega) (by omega) fun a k2 a0 a1 hk2=>Y5 (hP _ _ (by dsimp only; omega) (by dsimp only; omega) hk2))) fun c6=>?_
 have c6:¬ w < 6:=of_decide_eq_false c6
 refine Xn (Xn (Q2W (by dsimp only; omega) (by simp only [Qh,Qw]; omega) fun n hn=>?_))
 have hn2:0 ≤ n ∧ n ≤ 6:=by
  simp only [Qg,Qu,or_false] at hn
  omega
 refine Y4 (Q5A (by omega) (by omega) ?_)
 have ln:(Q3i 0 n.toNat).length ≤ 6:=by rw [Wj]; omega
 refine Xn (Q3x (fun ys (s:Dk × Int)=>s.1.cs.length ≤ 63 ∧ 0 ≤ s.2 ∧ s.2 < 10 ^ (6 * (6 - ys.length)) ∧ ys.length ≤ 6) ⟨hk1,Int.le_refl _,?_,ln⟩ (fun x xs s hs=>?_) (fun s hs=>?_))
 ·exact Int.pow_pos (by decide)
 ·obtain ⟨b1,b2,b3,b4⟩:=hs
  rw [Qh] at b3 b4
  obtain ⟨j,hj⟩:∃ j,6 - xs.length = j + 1:=⟨5 - xs.length,by omega⟩
  have ej:6 - (xs.length + 1) = j:=by omega
  rw [ej] at b3
  have mq:Q23 s.2 (10 ^ 6:Int) = some (s.2 * 10 ^ 6):=by
   unfold Q23
   rw [if_pos]
   have:Q0s (10 ^ 6:Int) = true:=by decide
   rw [this,Bool.or_true]
  rw [mq,Q1]
  refine Xn (Y4 (Yf b1 (by omega) (by omega) fun a k2 a0 a1 hk2=>Yy (Y5 ⟨hk2,by dsimp only; omega,?_,by omega⟩)))
  rw [hj,show 6 * (j + 1) = 6 * j + 6 by omega,Int.pow_add]
  (try dsimp only)
  generalize (10:Int) ^ (6 * j) = t at b3 ⊢
  omega
 ·obtain ⟨b1,b2,b3,_⟩:=hs
  have b3:s.2 < 10 ^ 36:=b3
  refine Xn (Xn (Yf b1 (by omega) (by omega) fun a k2 a0 a1 hk2=>?_))
  refine Y4 (Q2W (by dsimp only; omega) (by simp only [Qh,Qw]; omega) fun v hv=>Y5 (hP v k2 ?_ ?_ hk2))
  all_goals
   simp only [Qg,Qu,or_false] at hv
   omega
theorem Qj6 {k:Dk} {P:St × Dk → Prop} (hk:k.cs.length ≤ 63) (hP:∀ st k',WF st → Bd NB st → k'.cs.length ≤ 63 → P (st,k')):Wt (Q0H k) P:=by
 have nb0:(100000:Int) ≤ NB:=by decide
 unfold Q0H
 refine Xn (Yf hk (by omega) (by omega) fun w k1 w0 w1 hk1=>?_)
 refine Xn (QfI hk1 fun st k2 ws bs hk2=>?_)
 have ⟨q1,q2,q3,q4,q5⟩:=ws
 refine Ks (fun _=>?_) fun _=>?_
 ·refine Xn (Q43 (by dsimp only; omega) (Q5o (fun v=>-NB ≤ v ∧ v ≤ NB) (fun _ (s:Dk)=>s.cs.length ≤ 63) hk2 (fun x xs s hs=>Y4 (Q8Q hs fun v k3 v0 v1 hk3=>⟨⟨v0,v1⟩,hk3⟩)) fun ys s hl hq hs=>?_))
  exact Y5 (hP _ _ ⟨q1,q2,q3,q4,by dsimp only at hl ⊢; rw [hl]; exact q5⟩ (fun c hc=>hq c hc) hs)
 ·refine Xn (Xn (Xn (Yf hk2 (by omega) (by omega) fun a k3 a0 a1 hk3=>?_)))
  have mq:Q23 w a = some (w * a):=by
   unfold Q23
   rw [if_pos]
   have:Q0s w = true:=by
    unfold Q0s
    rw [decide_eq_true (by omega),decide_eq_true (by omega)]
    rfl
   rw [this,Bool.true_or]
  have wa:w * a ≤ 24 ∧ 0 ≤ w * a:=by
   have:w = 0 ∨ w = 1 ∨ w = 2:=by omega
   rcases this with rfl | rfl | rfl <;> omega
  (try dsimp only)
  rw [mq]
  refine Y5 (Y4 (Q5A (by dsimp only; omega) (by dsimp only; omega) ?_))
  refine Xn (Q3x (fun _ (s:Dk × List Int)=>s.1.cs.length ≤ 63 ∧ s.2.length = st.2.2.length ∧ ∀ c ∈ s.2,-NB ≤ c ∧ c ≤ NB) ⟨hk3,rfl,fun c hc=>by have:=bs c hc; omega⟩ (fun x xs s hs=>?_) (fun s hs=>?_))
  ·obtain ⟨b1,b2,b3⟩:=hs
   refine Xn (Q8Q b1 fun v k4 v0 v1 hk4=>?_)
   refine Xn (Yf hk4 (by unfold W0; omega) (by unfold W0; omega) fun p k5 p0 p1 hk5=>?_)
   unfold W0 at p1
   refine Xn (Q3b p0 p1 (Y5 ⟨hk5,by dsimp only; rw [Qv]; exact b2,fun c hc=>?_⟩))
   rcases List.mem_or_eq_of_mem_set hc with q | q
   ·exact b3 c q
   ·rw [q]; exact ⟨v0,v1⟩
  ·obtain ⟨b1,b2,b3⟩:=hs
   exact Y5 (hP _ _ ⟨q1,q2,q3,q4,by dsimp only; rw [b2]; exact q5⟩ b3 b1)
theorem Qbb {α:Type} {x:α} {k:Int} {P:List α → Prop} (h0:0 ≤ k) (h1:k ≤ 1000) (h:P (Qn k.toNat x)):Wt (Q7s [x] k) P:=by
 refine ⟨_,if_pos ?_,?_⟩
 ·simp
  omega
 ·have:(Qn k.toNat [x]).flatten = Qn k.toNat x:=by
   induction k.toNat with
   | zero=>rfl
   | succ n ih=>rw [Xb,List.flatten_cons,ih]; rfl
  rw [this]
  exact h
end K05
namespace K05
open PySem PySem.Spec PyProof.Rows L2 Z
variable {ι τ σ ρ:Type}
open TL
theorem Qbg {f:ι → Option τ} {xs:List ι} (g:ι → τ) (hf:∀ x ∈ xs,f x = some (g x)):mapM f xs = some (xs.map g):=by
 obtain ⟨a,e,h⟩:=Qho (P:=fun ys=>ys = xs.map g) g hf rfl
 rw [e,h]
theorem Q4r {xs:List ι} {o:Option τ} (h:xs.length ≤ 1000000):K5 xs o = o:=if_pos (J3 h Q24)
theorem Qkk {xs ys:List τ} (h:xs.length + ys.length ≤ 1000000):Wg xs ys = some (xs ++ ys):=if_pos (J3 h Q24)
theorem Q4L (z:Str) (lo hi:Option Int):tl (cutS z lo hi) = Yn (tl z) lo hi:=rfl
def nT (i:Int):Str:=Str.ofString (toString i)
theorem QbQ (n:Nat):tl (nT (n:Int)) = numL n:=tl_num n
theorem Qc7 (n:Nat):tl (nT (Int.negSucc n)) = 45 :: numL (n + 1):=by
 have e:toString (Int.negSucc n) = "-" ++ toString (((n + 1:Nat):Int)):=rfl
 have q:tl (nT (((n + 1:Nat):Int))) = numL (n + 1):=tl_num (n + 1)
 unfold nT at q ⊢
 rw [tl_ofString] at q ⊢
 rw [e,String.toList_append,Jw,q]
 rfl
theorem Q8K:∀ (n:Nat) (r:List Nat),numL n = 48 :: r → n = 0:=by
 intro n
 induction n using Nat.strongRecOn with
 | _ n ih =>
  intro r h
  by_cases c:n < 10
  ·rw [numL_lt c] at h
   injection h with h
   omega
  ·rw [numL_step (by omega)] at h
   cases q:numL (n / 10) with
   | nil=>exact absurd q (numL_ne _)
   | cons a t =>
    rw [q,List.cons_append] at h
    injection h with h1 h2
    subst h1
    have:=ih (n / 10) (by omega) t q
    omega
theorem Qc6 {x y:Str}:x = y ↔ tl x = tl y:=⟨fun h=>h ▸ rfl,ext_tl⟩
end K05
namespace K05
open PySem PySem.Spec PyProof.Rows L2 Z
variable {ι τ σ ρ:Type}
open TL
def Q1k (xs:List Int):Str:=Txt.join (" ":Str) (xs.map nT)
def NBd (xs:List Int):Prop:=∀ c ∈ xs,-NB ≤ c ∧ c ≤ NB
theorem Qcd {i:Int} (h0:-NB ≤ i) (h1:i ≤ NB):(nT i).length ≤ 41:=by
 unfold NB at h0 h1
 rw [len_tl]
 cases i with
 | ofNat n =>
  have h1:(n:Int) ≤ 10 ^ 40 - 1:=h1
  have:=numL_len (n:=n) (k:=40) (by decide) (by omega)
  show (tl (nT (n:Int))).length ≤ 41
  rw [QbQ]
  omega
 | negSucc n =>
  have:=numL_len (n:=n + 1) (k:=40) (by decide) (by omega)
  rw [Qc7,Qh]
  omega
theorem Qcv (i:Int) {s:Nat} (h:s < 48 ∨ 57 < s) (h2:s ≠ 45):s ∉ tl (nT i):=by
 cases i with
 | ofNat n =>
  show s ∉ tl (nT (n:Int))
  rw [QbQ]
  exact numL_free h
 | negSucc n =>
  rw [Qc7]
  intro q
  rcases Qg.mp q with q | q
  ·exact h2 q
  ·exact numL_free h q
theorem Q9F {k:Nat}:∀ ys:List Str,(∀ y ∈ ys,y.length ≤ k) → (ys.map (·.length)).sum ≤ k * ys.length
 | [],_=>by simp
 | y :: r,h=>by
  have:=Q9F r fun z hz=>h z (Q6 _ hz)
  have:=h y (Q7 ..)
  rw [Qq,List.sum_cons,Qh,Nat.mul_add]
  omega
theorem Q6f {k:Nat} (S:List Nat) (hS:S.length ≤ 1):∀ ps:List (List Nat),(∀ p ∈ ps,p.length ≤ k) → (joinL S ps).length ≤ (k + 1) * ps.length
 | [],_=>by simp [joinL]
 | [p],h=>by
  have:=h p (Q7 ..)
  simp only [joinL,Qh,Qw]
  omega
 | p :: q :: r,h=>by
  have:=Q6f S hS (q :: r) fun z hz=>h z (Q6 _ hz)
  have:=h p (Q7 ..)
  rw [joinL,Qb,Qb,Qh,Nat.mul_add]
  omega
theorem Q80 {s:Nat} (S:List Nat) (hS:s ∉ S):∀ ps:List (List Nat),(∀ p ∈ ps,s ∉ p) → s ∉ joinL S ps
 | [],_=>by simp [joinL]
 | [p],h=>by
  simp only [joinL]
  exact h p (Q7 ..)
 | p :: q :: r,h=>by
  have i:=Q80 S hS (q :: r) fun z hz=>h z (Q6 _ hz)
  have j:=h p (Q7 ..)
  rw [joinL,Qc,Qc]
  rintro (z | z | z)
  ·exact j z
  ·exact hS z
  ·exact i z
theorem Q5F {xs:List Int} (h:NBd xs):(Q1k xs).length ≤ 42 * xs.length:=by
 unfold Q1k
 rw [len_tl,join_eq,tl_join]
 have:=Q6f (k:=41) (tl (" ":Str)) (by decide) ((xs.map nT).map tl) (fun p hp=>by
  obtain ⟨y,hy,rfl⟩:=Qy.mp hp
  obtain ⟨i,hi,rfl⟩:=Qy.mp hy
  rw [← len_tl]
  exact Qcd (h i hi).1 (h i hi).2)
 rw [Q4,Q4] at this
 exact this
theorem Qdz (xs:List Int):10 ∉ tl (Q1k xs):=by
 unfold Q1k
 rw [join_eq,tl_join]
 refine Q80 _ (by decide) _ fun p hp=>?_
 obtain ⟨y,hy,rfl⟩:=Qy.mp hp
 obtain ⟨i,hi,rfl⟩:=Qy.mp hy
 exact Qcv i (by omega) (by decide)
theorem Qgr {i:Int} (h0:-NB ≤ i) (h1:i ≤ NB):Q6G (.int i) = some (.str (nT i)):=by
 unfold NB at h0 h1
 refine if_pos ?_
 by_cases c:i = 0
 ·subst c; decide
 ·exact (Nat.log2_lt (by omega)).mpr (Qs (show i.natAbs < 10 ^ 40 by omega) (J3 (show 10 ^ 40 ≤ 2 ^ 200 by decide) (Nat.pow_le_pow_right (by decide) (by decide))))
theorem QjO {d:D} {xs:List Int} (e:Kq d = some (xs.map Q0)) (h:NBd xs) (l:xs.length ≤ 300) :
  ((((((Kq d)).bind fun v1=>(K5 v1 (mapM (fun x2=>(Q6G x2)) v1)).map fun v6=>(v1,v6))).bind fun l5=>(((Q1z (Q3 (" ":Str)) ((eLi eD) l5.2)).bind asS)).map fun v8=>(l5,v8))) = some ((xs.map Q0,xs.map fun c=>.str (nT c)),Q1k xs):=by
 have m:mapM (fun x2=>(Q6G x2)) (xs.map Q0) = some (xs.map fun c=>Q3 (nT c)):=by
  rw [Qbg (fun d=>match d with | .int i=>.str (nT i) | d=>d) fun d hd=>?_]
  ·rw [Jb]
   rfl
  ·obtain ⟨i,hi,rfl⟩:=Qy.mp hd
   exact Qgr (h i hi).1 (h i hi).2
 have j:Q1z (Q3 (" ":Str)) ((eLi eD) (xs.map fun c=>Q3 (nT c))) = some (.str (Q1k xs)):=by
  have:(eLi eD) (xs.map fun c=>Q3 (nT c)) = eLi Q3 (xs.map nT):=by
   show Jt _ = Jt _
   rw [Jb,Jb]
   rfl
  rw [this]
  refine Q20 _ _ _ (if_pos ?_)
  have:=Q9F (k:=41) (xs.map nT) fun y hy=>by
   obtain ⟨i,hi,rfl⟩:=Qy.mp hy
   exact Qcd (h i hi).1 (h i hi).2
  rw [Q4] at this ⊢
  have:((" ":Str)).length = 1:=by decide
  rw [this]
  omega
 rw [e,Q1,m,Q4r (by rw [Q4]; omega),Qi,Q1]
 dsimp only
 rw [j]
 rfl
def Vv (st:St):List (List Int):=[[st.1,st.2.1],Yn st.2.2 none (some (7 * st.1)),Yn st.2.2 (some (7 * st.1)) (some ((7 * st.1) + st.2.1)),Yn st.2.2 (some ((7 * st.1) + st.2.1)) (some ((7 * st.1) + (5 * st.2.1))),Yn st.2.2 (some ((7 * st.1) + (5 * st.2.1))) none]
def stT (st:St):Str:=Txt.join ("\n":Str) ((Vv st).map Q1k)
theorem NBd.cut {xs:List Int} (h:NBd xs) (a b:Option Int):NBd (Yn xs a b):=fun c hc=>h c (List.mem_of_mem_drop (List.mem_of_mem_take hc))
theorem Qbh {α:Type} {xs:List α} (a b:Option Int):(Yn xs a b).length ≤ xs.length:=by
 unfold Yn
 rw [Jr,Xf]
 omega
theorem Q5n {st:St} (w:WF st) (h:NBd st.2.2):∀ r ∈ Vv st,NBd r ∧ r.length ≤ 300:=by
 have ⟨q1,q2,q3,q4,q5⟩:=w
 intro r hr
 unfold Vv at hr
 simp only [Qg,Qu,or_false] at hr
 rcases hr with rfl | rfl | rfl | rfl | rfl
 ·refine ⟨fun c hc=>?_,by simp⟩
  simp only [Qg,Qu,or_false] at hc
  unfold NB
  omega
 all_goals exact ⟨h.cut _ _,J3 (Qbh _ _) (by omega)⟩
theorem Q79 {f:ι → Option τ} {x:ι} {y:τ} {xs:List ι} {ys:List τ} (h:f x = some y) (k:mapM f xs = some ys):mapM f (x :: xs) = some (y :: ys):=by
 show (f x).bind (fun y=>(mapM f xs).map fun ys=>y :: ys) = _
 rw [h,k]
 rfl
theorem Qgq {st:St} (w:WF st) (h:NBd st.2.2):Q1V ("\n":Str) ((Vv st).map Q1k) = some (stT st):=by
 refine if_pos ?_
 have:=Q9F (k:=12600) ((Vv st).map Q1k) fun y hy=>by
  obtain ⟨r,hr,rfl⟩:=Qy.mp hy
  have ⟨a,b⟩:=Q5n w h r hr
  exact J3 (Q5F a) (by omega)
 have l:((Vv st).map Q1k).length = 5:=rfl
 rw [l] at this ⊢
 have:(("\n":Str)).length = 1:=by decide
 omega
def Qjw (x4:D):Option Str:=(((((((Kq x4)).bind fun v5=>(K5 v5 (mapM (fun x6=>(Q6G x6)) v5)).map fun v10=>(v5,v10))).bind fun l9=>(((Q1z (Q3 (" ":Str)) ((eLi eD) l9.2)).bind asS)).map fun v12=>(l9,v12))).map fun b11=>b11.2)
theorem Q5H {d:D} {xs:List Int} (e:Kq d = some (xs.map Q0)) (h:NBd xs ∧ xs.length ≤ 300):Qjw d = some (Q1k xs):=by
 unfold Qjw
 rw [QjO e h.1 h.2]
 rfl
theorem Qb9 {st:St} (w:WF st) (h:NBd st.2.2):Q39 st = some (stT st):=by
 have R:=Q5n w h
 unfold Q39 Q2f
 dsimp only
 rw [Qkk (by simp),Q1]
 have m:mapM Qjw [((eLi Q0) ([st.1,st.2.1])),((eTu Q0) (Yn st.2.2 none (some (7 * st.1)))),((eTu Q0) (Yn st.2.2 (some (7 * st.1)) (some ((7 * st.1) + st.2.1)))),((eTu Q0) (Yn st.2.2 (some ((7 * st.1) + st.2.1)) (some ((7 * st.1) + (5 * st.2.1))))),((eTu Q0) (Yn st.2.2 (some ((7 * st.1) + (5 * st.2.1))) none))] = some ((Vv st).map Q1k) :=
  Q79 (Q5H rfl (R _ (by simp [Vv]))) (Q79 (Q5H rfl (R _ (by simp [Vv]))) (Q79 (Q5H rfl (R _ (by simp [Vv]))) (Q79 (Q5H rfl (R _ (by simp [Vv]))) (Q79 (Q5H rfl (R _ (by simp [Vv]))) rfl))))
 rw [Q4r (by simp)]
 have j:=Qgq w h
 refine (congrArg (fun z=>(Option.bind (Option.bind z fun l13=>((Q1V ("\n":Str) l13)).map fun v15=>(l13,v15)) fun b14=>(some b14.2))) m).trans ?_
 rw [Q1,j]
 rfl
end K05
namespace K05
open PySem PySem.Spec PyProof.Rows L2 Z
variable {ι τ σ ρ:Type}
open TL
theorem Qes {h b:Int} (b0:3 ≤ b) (b1:b ≤ 12):Q1p h b = some [(0,7 * h),(7 * h,7 * h + b),(7 * h + b,7 * h + b + 4 * b),(7 * h + b + 4 * b,7 * h + 5 * b + 82)]:=by
 have mq:Q23 (1 + 4) b = some (5 * b):=by
  unfold Q23
  rw [if_pos]
  ·rfl
  ·have:Q0s (1 + 4:Int) = true:=by decide
   rw [this,Bool.true_or]
 unfold Q1p Q3k Q0F Q1N Zf
 rw [mq]
 rfl
theorem QfV {st:St} (w:WF st) (h:NBd st.2.2):Q0U (stT st) ("\n":Str) = some ((Vv st).map Q1k):=by
 have e:Txt.split (stT st) ("\n":Str) = (Vv st).map Q1k:=split_join (y:=("\n":Str)) (s:=10) (S:=[]) rfl (by decide +kernel) (by simp [Vv]) fun p hp=>by
  obtain ⟨r,hr,rfl⟩:=Qy.mp hp
  exact Qdz r
 have l:(stT st).length ≤ 100000:=by
  unfold stT
  rw [len_tl,join_eq,tl_join]
  have:=Q6f (k:=12600) (tl ("\n":Str)) (by decide) (((Vv st).map Q1k).map tl) (fun p hp=>by
   obtain ⟨y,hy,rfl⟩:=Qy.mp hp
   obtain ⟨r,hr,rfl⟩:=Qy.mp hy
   rw [← len_tl]
   have ⟨a,b⟩:=Q5n w h r hr
   exact J3 (Q5F a) (by omega))
  have l:(((Vv st).map Q1k).map tl).length = 5:=rfl
  rw [l] at this
  omega
 unfold Q0U
 rw [if_pos ⟨by decide,J3 (Nat.add_le_add_right l 2) (by decide)⟩,e]
theorem QgO {xs:List Int} (h:NBd xs) (l:xs.length ≤ 300) (ne:xs ≠ []):Q0U (Q1k xs) (" ":Str) = some (xs.map nT):=by
 have e:Txt.split (Q1k xs) (" ":Str) = xs.map nT:=split_join (y:=(" ":Str)) (s:=32) (S:=[]) rfl (by decide +kernel) (fun z=>ne (List.map_eq_nil_iff.mp z)) fun p hp=>by
  obtain ⟨i,hi,rfl⟩:=Qy.mp hp
  exact Qcv i (by omega) (by decide)
 have:=Q5F h
 have sb:(100000:Nat) ≤ sizeLine:=by decide
 unfold Q0U
 rw [if_pos ⟨by decide,by omega⟩,e]
end K05
namespace K05
open PySem PySem.Spec PyProof.Rows L2 Z
variable {ι τ σ ρ:Type}
open TL
def dgB (c:Nat):Bool:=decide (48 ≤ c ∧ c ≤ 57)
theorem Qg7 (c:Nat):inD (.str ⟨#[c]⟩) (.str ("0123456789":Str)) = some (dgB c):=by
 show some (!(Builtin.Str.occurrences ("0123456789":Str) ⟨#[c]⟩ 0 ("0123456789":Str).length 1).isEmpty) = _
 rw [PySem.StrLaws.found_one]
 congr 1
 unfold dgB
 have e:("0123456789":Str).cps.toList = [48,49,50,51,52,53,54,55,56,57]:=by decide +kernel
 rw [e]
 refine decide_eq_decide.mpr ?_
 simp only [Qg,Qu,or_false]
 omega
def fig (w:Str):Str:=if decide (cutS w none (some 1) = ("-":Str)) then cutS w (some 1) none else w
def okB (w:Str):Bool:=decide (1 ≤ (fig w).length) && decide ((fig w).length ≤ 40) && (tl (fig w)).all dgB && !(decide ((tl (fig w)).head? = some 48) && !decide (w = ("0":Str)))
theorem Q6S (w:Str):(fig w).length ≤ w.length ∧ w.length ≤ (fig w).length + 1:=by
 unfold fig
 split
 ·have e:tl (cutS w (some 1) none) = (tl w).drop 1:=by rw [Q4L,Q0l (by decide)]; rfl
  rw [len_tl,len_tl,e,Xf]
  omega
 ·exact ⟨Jf _,Nat.le_succ _⟩
theorem Qcw:∀ (cs:List Nat) (a k:Nat),(∀ c ∈ cs,c ≤ 57) → a < 10 ^ k → cs.foldl (fun acc c=>acc * 10 + (c - 48)) a < 10 ^ (k + cs.length)
 | [],a,k,_,h=>h
 | c :: cs,a,k,hc,h=>by
  have h9:=hc c (Q7 ..)
  have:=Qcw cs (a * 10 + (c - 48)) (k + 1) (fun d hd=>hc d (Q6 _ hd)) (by rw [Nat.pow_succ]; omega)
  rw [List.foldl_cons,Qh,show k + (cs.length + 1) = k + 1 + cs.length by omega]
  exact this
theorem QdS {cs:List Nat} (h:∀ c ∈ cs,48 ≤ c ∧ c ≤ 57):PySem.NumText.digitsVal cs < 10 ^ cs.length:=by
 have:=Qcw cs 0 0 (fun c hc=>(h c hc).2) (by decide)
 rw [Nat.zero_add] at this
 exact this
theorem QfK {w:Str} (h:okB w = true):∃ v:Int,-NB ≤ v ∧ v ≤ NB ∧ Q0t w = some v:=by
 unfold okB at h
 simp only [Q5,decide_eq_true_eq,Qe] at h
 obtain ⟨⟨⟨h1,h2⟩,h3⟩,_⟩:=h
 have dg:PySem.NumText.AllDigits (tl (fig w)):=fun c hc=>by
  have:=h3 c hc
  unfold dgB at this
  exact of_decide_eq_true this
 have ne:tl (fig w) ≠ []:=fun e=>by
  rw [len_tl,e] at h1
  exact absurd h1 (by decide)
 have wl:=(Q6S w).2
 have vb:PySem.NumText.digitsVal (tl (fig w)) < 10 ^ 40:=Qs (QdS (cs:=tl (fig w)) dg) (Nat.pow_le_pow_right (by decide) (by rw [← len_tl (fig w)]; exact h2))
 have iq:Q0t w = PySem.intText? w:=if_pos (by omega)
 rw [iq]
 by_cases c:cutS w none (some 1) = ("-":Str)
 ·have fe:fig w = cutS w (some 1) none:=if_pos (decide_eq_true c)
  have e1:(tl w).take 1 = [45]:=by
   have:=Qc6.mp c
   rw [Q4L,Q1y (by decide)] at this
   exact this
  have e2:tl (fig w) = (tl w).drop 1:=by rw [fe,Q4L,Q0l (by decide)]; rfl
  have ew:w.cps.toList = 45 :: tl (fig w):=by
   rw [e2]
   show tl w = _
   have:=List.take_append_drop 1 (tl w)
   rw [e1] at this
   exact this.symm
  refine ⟨_,?_,?_,PySem.intText_neg ew dg ne (by omega)⟩
  ·unfold NB; omega
  ·unfold NB; omega
 ·have fe:fig w = w:=if_neg (by rw [decide_eq_false c]; decide)
  rw [fe] at dg ne vb
  refine ⟨((PySem.NumText.digitsVal (tl w):Nat):Int),?_,?_,PySem.intText_digits dg ne (by omega)⟩
  ·unfold NB; omega
  ·unfold NB; omega
theorem figQ {w:Str} (l:w.length ≤ 100000):(Q0v w none (some 1)).bind (fun v2=>if (decide (v2 = ("-":Str))) then (Q0v w (some 1) none).bind fun v4=>(some v4) else (some w)) = some (fig w):=by
 have sb:(100000:Nat) ≤ sizeLine:=by decide
 have c1:Q0v w none (some 1) = some (cutS w none (some 1)):=if_pos (by omega)
 have c2:Q0v w (some 1) none = some (cutS w (some 1) none):=if_pos (by omega)
 rw [c1,c2,Q1]
 unfold fig
 split <;> rfl
theorem Qkr {w:Str} (l:w.length ≤ 100000):(Q0v w none (some 1)).bind (fun v2=>if (decide (v2 = ("-":Str))) then Q0v w (some 1) none else (some w)) = some (fig w):=by
 have sb:(100000:Nat) ≤ sizeLine:=by decide
 have c1:Q0v w none (some 1) = some (cutS w none (some 1)):=if_pos (by omega)
 have c2:Q0v w (some 1) none = some (cutS w (some 1) none):=if_pos (by omega)
 rw [c1,c2,Q1]
 unfold fig
 split <;> rfl
theorem QcF {s:Str} (l:s.length ≤ 100000) (n:1 ≤ s.length) (w:Str):((sIx s 0).bind fun v=>if (decide (v = ("0":Str))) then (some (!decide (w = ("0":Str)))) else some false) = some (decide ((tl s).head? = some 48) && !decide (w = ("0":Str))):=by
 have sb:(100000:Nat) ≤ sizeLine:=by decide
 cases q:tl s with
 | nil=>rw [len_tl,q] at n; exact absurd n (by decide)
 | cons a t =>
  have si:sIx s 0 = some ⟨#[a]⟩:=by
   unfold sIx
   rw [if_pos (by omega)]
   have:s.cps.toList = a :: t:=q
   rw [this]
   obtain ⟨c,ec⟩:=QaD (a :: t) 0 (by omega) (by simp only [Qh]; omega)
   rw [ec]
   rfl
  rw [si,Q1]
  by_cases c:(⟨#[a]⟩:Str) = ("0":Str)
  ·have a0:a = 48:=by
    have:=Qc6.mp c
    have h2:[a] = [48]:=this
    injection h2
   subst a0
   rw [if_pos (decide_eq_true c),decide_eq_true (show (48 :: t).head? = some 48 from rfl),Bool.true_and]
  ·have a0:a ≠ 48:=fun e=>c (by rw [e]; rfl)
   rw [if_neg (by rw [decide_eq_false c]; decide),decide_eq_false (fun e:(a :: t).head? = some 48=>a0 (by injection e)),Bool.false_and]
theorem Qdd (s:Str):(chN s).length = s.length:=by
 unfold chN
 rw [Q4]
 exact Array.length_toList
theorem Qc1 {w:Str} (l:w.length ≤ 100000):Q06 w = (if okB w then (Q0t w).bind fun v=>some (Sum.inr v) else some (Jx ("NoText":Str))):=by
 have fl:=(Q6S w).1
 have sb:(100000:Nat) ≤ sizeLine:=by decide
 unfold Q06
 rw [figQ l,Q1]
 generalize hs:fig w = s at *
 have ls:Q5z s = some (s.length:Int):=if_pos (by omega)
 have mm:mapM (fun x7=>(inD (Q3 x7) (Q3 ("0123456789":Str)))) (chN s) = some ((tl s).map dgB):=by
  have:(tl s).map dgB = (chN s).map fun d=>dgB (d.cps.toList.headD 0):=by
   unfold chN
   rw [Jb]
   rfl
  rw [this]
  refine Qbg _ fun d hd=>?_
  obtain ⟨c,hc,rfl⟩:=Qy.mp hd
  exact Qg7 c
 rw [ls,Q1,mm,Q4r (by rw [Qdd]; omega),Qi]
 have al:((tl s).map dgB).all id = (tl s).all dgB:=by rw [List.all_map]; rfl
 rw [al]
 unfold okB
 rw [hs]
 by_cases c1:1 ≤ s.length ∧ s.length ≤ 40
 ·rw [decide_eq_true (show (1:Int) ≤ (s.length:Int) by omega),decide_eq_true (show (s.length:Int) ≤ 40 by omega),decide_eq_true c1.1,decide_eq_true c1.2,if_neg (by decide),Q1]
  cases c2:(tl s).all dgB with
  | false =>
   rw [if_pos (by rfl),if_neg (by simp)]
  | true =>
   rw [if_neg (by decide),QcF (by omega) c1.1,Q1]
   cases c3:(decide ((tl s).head? = some 48) && !decide (w = ("0":Str))) with
   | false=>rw [if_neg (by decide),if_pos (by rfl)]
   | true=>rw [if_pos rfl,if_neg (by decide)]
 ·have:(!(decide ((1:Int) ≤ (s.length:Int)) && decide ((s.length:Int) ≤ 40))) = true:=by
   rw [Ji,Bool.and_eq_false_iff,decide_eq_false_iff_not,decide_eq_false_iff_not]
   omega
  rw [if_pos this,Q1,if_pos rfl,if_neg]
  intro q
  simp only [Q5,decide_eq_true_eq] at q
  exact c1 q.1.1
theorem QfP {w:Str} (l:w.length ≤ 100000):Kp w = (if okB w then (Q0t w).map fun v=>Q0 v else some .none):=by
 have fl:=(Q6S w).1
 have sb:(100000:Nat) ≤ sizeLine:=by decide
 unfold Kp
 rw [Qkr l,Q1]
 generalize hs:fig w = s at *
 have ls:Q5z s = some (s.length:Int):=if_pos (by omega)
 have mm:Q1F (fun x8=>(Q4T (Q3 x8) (Q3 ("0123456789":Str)))) (fun x8=>(some x8)) (chN s) = some (((chN s).filter fun d=>!dgB (d.cps.toList.headD 0)).map id):=Q6O (fun d:Str=>!dgB (d.cps.toList.headD 0)) id _ (fun d hd=>by
  obtain ⟨c,hc,rfl⟩:=Qy.mp hd
  unfold Q4T
  rw [Qg7 c]
  rfl) (fun d _ _=>rfl)
 have nil:decide (((chN s).filter fun d=>!dgB (d.cps.toList.headD 0)).map id = []) = (tl s).all dgB:=by
  rw [X9,Bool.eq_iff_iff,decide_eq_true_eq,List.filter_eq_nil_iff,Qe]
  refine ⟨fun h c hc=>?_,fun h d hd=>?_⟩
  ·have:=h ⟨#[c]⟩ (Qy.mpr ⟨c,hc,rfl⟩)
   have:¬ (!dgB c) = true:=this
   simpa using this
  ·obtain ⟨c,hc,rfl⟩:=Qy.mp hd
   have:=h c hc
   show ¬ (!dgB c) = true
   rw [this]
   decide
 rw [ls,Q1,mm,Q4r (by rw [Qdd]; omega),Qi,nil]
 unfold okB
 rw [hs]
 by_cases c0:s = ("":Str)
 ·rw [if_pos (decide_eq_true c0),Q1,if_pos rfl,if_neg]
  intro q
  simp only [Q5,decide_eq_true_eq] at q
  have:=q.1.1.1
  rw [c0] at this
  exact absurd this (by decide)
 have n1:1 ≤ s.length:=by
  rcases Nat.eq_zero_or_pos s.length with z | z
  ·refine absurd (ext_tl ?_) c0
   rw [len_tl] at z
   exact List.eq_nil_of_length_eq_zero z
  ·exact z
 rw [if_neg (by rw [decide_eq_false c0]; decide)]
 by_cases c1:s.length ≤ 40
 ·rw [if_neg (by rw [decide_eq_false (by omega)]; decide),decide_eq_true n1,decide_eq_true c1,Q1]
  cases c2:(tl s).all dgB with
  | false =>
   rw [if_pos (by rfl),if_neg (by simp)]
  | true =>
   rw [if_neg (by decide),QcF (by omega) n1,Q1]
   cases c3:(decide ((tl s).head? = some 48) && !decide (w = ("0":Str))) with
   | false =>
    rw [if_neg (by decide),if_pos (by rfl)]
    cases (Q0t w).map fun v=>Q0 v <;> rfl
   | true=>rw [if_pos rfl,if_neg (by decide)]; rfl
 ·rw [if_pos (by rw [decide_eq_true_eq]; omega),Q1,if_pos rfl,if_neg]
  intro q
  simp only [Q5,decide_eq_true_eq] at q
  exact c1 q.1.1.2
end K05
namespace K05
open PySem PySem.Spec PyProof.Rows L2 Z
variable {ι τ σ ρ:Type}
open TL
theorem Q6W (s:Nat):∀ (l acc:List Nat),((spl [s] 0 acc l).map List.length).sum + (spl [s] 0 acc l).length = acc.length + l.length + 1
 | [],acc=>by
  rw [spl_nil]
  simp
 | c :: r,acc=>by
  by_cases h:c = s
  ·subst h
   rw [spl_hit (by simp [pre])]
   have:=Q6W c r []
   simp only [Qq,List.sum_cons,Qh,Qw] at this ⊢
   show acc.length + ((spl [c] 0 [] r).map List.length).sum + ((spl [c] 0 [] r).length + 1) = _
   omega
  ·rw [spl_miss (by simp [pre,h])]
   have:=Q6W s r (acc ++ [c])
   simp only [Qb,Qh,Qw] at this ⊢
   omega
theorem Q9y (s:Nat):∀ (l acc P W Q:List Nat),acc ++ l = (P ++ W) ++ Q → s ∉ W → ∃ w ∈ spl [s] 0 acc l,∃ P' Q',w = (P' ++ W) ++ Q'
 | [],acc,P,W,Q,e,_=>by
  rw [spl_nil]
  rw [J4] at e
  exact ⟨acc,Q7 ..,P,Q,e⟩
 | c :: r,acc,P,W,Q,e,h=>by
  by_cases hc:c = s
  ·subst hc
   rw [spl_hit (by simp [pre])]
   show ∃ w ∈ acc :: spl [c] 0 [] r,_
   rcases List.append_eq_append_iff.mp e with ⟨a',e1,e2⟩ | ⟨c',e1,e2⟩
   ·cases a' with
    | nil =>
     rw [J4] at e1
     exact ⟨acc,Q7 ..,P,[],by rw [J4,e1]⟩
    | cons d a'' =>
     rw [List.cons_append] at e2
     injection e2 with e3 e4
     subst e3
     rcases List.append_eq_append_iff.mp e1 with ⟨a1,f1,f2⟩ | ⟨c1,f1,f2⟩
     ·exact absurd (by rw [f2]; exact Qd _ (Q7 ..)) h
     ·cases c1 with
      | nil =>
       rw [List.nil_append] at f2
       exact absurd (by rw [← f2]; exact Q7 ..) h
      | cons z a2 =>
       rw [List.cons_append] at f2
       injection f2 with f3 f4
       obtain ⟨w,hw,P',Q',ew⟩:=Q9y c r [] a2 W Q (by rw [List.nil_append,e4,f4]) h
       exact ⟨w,Q6 _ hw,P',Q',ew⟩
   ·exact ⟨acc,Q7 ..,P,c',e1⟩
  ·rw [spl_miss (by simp [pre,hc])]
   exact Q9y s r (acc ++ [c]) P W Q (by rw [← e]; simp) h
theorem Qau (x:Str):(Txt.split x ("\n":Str)).map tl = spl [10] 0 [] (tl x):=split_spl x ("\n":Str) (by decide +kernel) (kind_ok (by decide +kernel))
theorem QaQ (x:Str):(Txt.split x (" ":Str)).map tl = spl [32] 0 [] (tl x):=split_spl x (" ":Str) (by decide +kernel) (kind_ok (by decide +kernel))
theorem QeC (ys:List Str):((ys.map tl).map List.length).sum = (ys.map (·.length)).sum:=by
 rw [Jb]
 refine congrArg List.sum (Jl fun y _=>?_)
 exact (len_tl y).symm
theorem Q98 (x:Str):((Txt.split x ("\n":Str)).map (·.length)).sum + (Txt.split x ("\n":Str)).length = x.length + 1:=by
 have:=Q6W 10 (tl x) []
 rw [← Qau,QeC,Q4,← len_tl] at this
 simp only [Qw] at this
 omega
theorem Q9E (x:Str):((Txt.split x (" ":Str)).map (·.length)).sum + (Txt.split x (" ":Str)).length = x.length + 1:=by
 have:=Q6W 32 (tl x) []
 rw [← QaQ,QeC,Q4,← len_tl] at this
 simp only [Qw] at this
 omega
theorem Q9s:∀ {ys:List Str} {y:Str},y ∈ ys → y.length ≤ (ys.map (·.length)).sum
 | z :: ys,y,h=>by
  rw [Qq,List.sum_cons]
  rcases Qg.mp h with rfl | h
  ·omega
  ·have:=Q9s h
   omega
theorem Q8X {ys:List Str} {n:Nat} (h:(ys.map (·.length)).sum + ys.length = n + 1):1 ≤ ys.length:=by
 cases ys with
 | nil=>simp at h
 | cons y r=>simp
theorem Qa2 {x l:Str} (h:l ∈ Txt.split x ("\n":Str)):l.length ≤ x.length:=by
 have:=Q98 x
 have:=Q9s h
 have:=List.length_pos_of_mem h
 omega
theorem Qfd {x l:Str} (h:l ∈ Txt.split x (" ":Str)):l.length ≤ x.length:=by
 have:=Q9E x
 have:=Q9s h
 have:=List.length_pos_of_mem h
 omega
theorem Qc2 (x:Str):(Txt.split x ("\n":Str)).length ≤ x.length + 1:=by have:=Q98 x; omega
theorem QbX (x:Str):(Txt.split x (" ":Str)).length ≤ x.length + 1:=by have:=Q9E x; omega
theorem QiO {x:Str} (l:x.length ≤ 1000000):Q0U x ("\n":Str) = some (Txt.split x ("\n":Str)):=by
 have sb:(1000002:Nat) ≤ sizeLine:=by decide
 exact if_pos ⟨by decide,by omega⟩
theorem Qjf {x:Str} (l:x.length ≤ 1000000):Q0U x (" ":Str) = some (Txt.split x (" ":Str)):=by
 have sb:(1000002:Nat) ≤ sizeLine:=by decide
 exact if_pos ⟨by decide,by omega⟩
theorem Q7f {ι τ:Type} {f:ι → Option (Str ⊕ τ)} {g:ι → τ} {ok:ι → Bool}:∀ xs:List ι,(∀ x ∈ xs,f x = some (if ok x then .inr (g x) else .inl ("NoText":Str))) → Q7G f xs = some (if xs.all ok then .inr (xs.map g) else .inl ("NoText":Str))
 | [],_=>rfl
 | x :: r,h=>by
  unfold Q7G
  rw [h x (Q7 ..),Q7f r fun y hy=>h y (Q6 _ hy),Q1,List.all_cons]
  cases ok x with
  | false=>rfl
  | true =>
   rw [if_pos rfl,Sum.elim_inr,Qi,Bool.true_and]
   cases r.all ok <;> rfl
def Yj (w:Str):Int:=(Q0t w).getD 0
def Q0e (w:Str):D:=if okB w then .int (Yj w) else .none
theorem Qcg {w:Str} (h:okB w = true):Q0t w = some (Yj w) ∧ -NB ≤ Yj w ∧ Yj w ≤ NB:=by
 obtain ⟨v,v0,v1,e⟩:=QfK h
 unfold Yj
 rw [e]
 exact ⟨rfl,v0,v1⟩
def wds (x:Str):List (List Str):=(Txt.split x ("\n":Str)).map fun l=>Txt.split l (" ":Str)
theorem Qjb {l:Str} (hl:l.length ≤ 100000):((((Q0U l (" ":Str))).bind fun v5=>(K5 v5 (Q7G (fun x6=>(Q06 x6)) v5)).map (Sum.map (fun z11=>(v5,z11)) (fun z12=>(v5,z12))))).map (Sum.map (fun (e10:(List Str × Str))=>(e10.2:Str)) (fun (r9:(List Str × (List Int)))=>r9.2)) = some (if (Txt.split l (" ":Str)).all okB then .inr ((Txt.split l (" ":Str)).map Yj) else .inl ("NoText":Str)):=by
 have bc:=QbX l
 rw [Qjf (by omega),Q1,Q4r (by omega),Q7f (g:=Yj) (ok:=okB) _ fun w hw=>?_]
 ·cases (Txt.split l (" ":Str)).all okB <;> rfl
 ·have:=Qfd hw
  rw [Qc1 (by omega)]
  cases h:okB w with
  | false=>rfl
  | true =>
   rw [if_pos rfl,(Qcg h).1]
   rfl
theorem QiX {l:Str} (hl:l.length ≤ 100000):((((Q0U l (" ":Str))).bind fun v3=>(K5 v3 (mapM (fun x4=>(Kp x4)) v3)).map fun v8=>(v3,v8))).map (fun l7=>l7.2) = some ((Txt.split l (" ":Str)).map Q0e):=by
 have bc:=QbX l
 rw [Qjf (by omega),Q1,Q4r (by omega),Qbg Q0e fun w hw=>?_]
 ·rfl
 ·have:=Qfd hw
  rw [QfP (by omega)]
  unfold Q0e
  cases h:okB w with
  | false=>rfl
  | true =>
   rw [if_pos rfl,if_pos rfl,(Qcg h).1]
   rfl
theorem Qf9 {st:St} (w:WF st) (n:st.2.2.length ≤ 1000000):Q0A st = some true:=by
 obtain ⟨q1,q2,q3,q4,q5⟩:=w
 have sh:Q00 st.1 st.2.1 = some true:=by
  unfold Q00 Q0a
  rw [decide_eq_true q1,decide_eq_true q2,decide_eq_true q3,decide_eq_true q4]
  rfl
 have mc:Zf st.1 st.2.1 = some (7 * st.1 + 5 * st.2.1 + 82):=by
  unfold Zf
  have:Q23 (1 + 4) st.2.1 = some (5 * st.2.1):=by
   unfold Q23
   rw [if_pos]
   ·rfl
   ·have:Q0s (1 + 4:Int) = true:=by decide
    rw [this,Bool.true_or]
  rw [this]
  rfl
 have ln:W0 st.2.2 = 7 * st.1 + 5 * st.2.1 + 82:=q5
 unfold Q0A
 rw [sh,mc]
 simp only [Qi,Xa,Qx,if_false,decide_true,Q1]
 rw [decide_eq_true ln]
 simp only [Xa,Qx,if_false,Q1]
 have mm:mapM (fun x10=>Q0a x10) st.2.2 = some (st.2.2.map fun _=>true):=Qbg _ fun _ _=>rfl
 rw [mm,Q4r n,Q1]
 simp
end K05
namespace K05
open PySem PySem.Spec PyProof.Rows L2 Z
variable {ι τ σ ρ:Type}
open TL
def eO:Option Int → D
 | some i=>.int i
 | none=>.none
theorem gO:Gd eO 0:=⟨fun a=>by cases a <;> rfl,fun a=>by cases a <;> exact Jf _,fun a b=>by cases a <;> cases b <;> simp [eO,Jm]⟩
theorem shG {α:Type} {e:α → D} {n:Nat} (G:Gd e n) (hn:n ≤ 64) (a:α):shp (e a) = true:=by
 unfold shp
 rw [G.pl,decide_eq_true (J3 (G.dp a) hn)]
 rfl
theorem neG {α:Type} [DecidableEq α] {e:α → D} {n:Nat} (G:Gd e n) (hn:n ≤ 64) (a b:α):neD (e a) (e b) = some (!decide (a = b)):=by
 unfold neD eqD
 rw [shG G hn a,shG G hn b,if_pos (show (true && true) = true from rfl)]
 have:Jm (e a) (e b) = decide (a = b):=by
  rw [Bool.eq_iff_iff,decide_eq_true_eq]
  exact G.eq a b
 rw [this]
 rfl
def Qee (w:Str):Option Int:=if okB w then some (Yj w) else none
theorem Qjk (w:Str):Q0e w = eO (Qee w):=by
 unfold Q0e Qee
 split <;> rfl
theorem Qij (ws:List Str):ws.map Q0e = (ws.map Qee).map eO:=by
 rw [Jb]
 exact Jl fun w _=>Qjk w
theorem Qkc {ws:List Str} (h:ws.all okB = true):ws.map Q0e = (ws.map Yj).map Q0:=by
 rw [Jb]
 refine Jl fun w hw=>?_
 have:=Qe.mp h w hw
 unfold Q0e
 rw [if_pos this]
 rfl
theorem QhH (ds:List D):(eLi eD) ds = .list ds:=congrArg Jt (X9 ds)
theorem Qhf (ws:List Str):inD .none ((eLi eD) (ws.map Q0e)) = some (!ws.all okB):=by
 have s:shp (.list (ws.map Q0e)) = true:=by
  rw [Qij]
  exact shG (gLi gO) (by decide) (ws.map Qee)
 rw [QhH]
 show (if shp .none && shp (.list (ws.map Q0e)) then some ((ws.map Q0e).any fun z=>Jm z .none) else none) = _
 rw [s,if_pos (show (shp .none && true) = true from rfl),List.any_map]
 congr 1
 rw [Bool.eq_iff_iff,Xe,Ji,← Bool.not_eq_true,Qe]
 refine ⟨fun ⟨w,hw,e⟩ h=>?_,fun h=>?_⟩
 ·have:=h w hw
  have e:Jm (Q0e w) .none = true:=e
  unfold Q0e at e
  rw [if_pos this] at e
  cases e
 ·refine Classical.byContradiction fun q=>h fun w hw=>?_
  cases c:okB w with
  | true=>rfl
  | false =>
   refine absurd ⟨w,hw,?_⟩ q
   show Jm (Q0e w) .none = true
   unfold Q0e
   rw [c]
   rfl
theorem five {α:Type} {xs:List α} (h:xs.length = 5):∃ a b c d e,xs = [a,b,c,d,e]:=by
 match xs,h with
 | [a,b,c,d,e],_=>exact ⟨a,b,c,d,e,rfl⟩
theorem dtwo {α:Type} {xs:List α} (h:xs.length = 2):∃ a b,xs = [a,b]:=by
 match xs,h with
 | [a,b],_=>exact ⟨a,b,rfl⟩
theorem NBd.map {ws:List Str} (h:ws.all okB = true):NBd (ws.map Yj):=fun c hc=>by
 obtain ⟨w,hw,rfl⟩:=Qy.mp hc
 exact (Qcg (Qe.mp h w hw)).2
def rsI (x:Str):List (List Int):=(wds x).map fun ws=>ws.map Yj
def QfD (x:Str):Bool:=(wds x).all fun ws=>ws.all okB
theorem QjH {x:Str} (l:x.length ≤ 100000):K5 (Txt.split x ("\n":Str)) (Q7G (fun x4=>(((((Q0U x4 (" ":Str))).bind fun v5=>(K5 v5 (Q7G (fun x6=>(Q06 x6)) v5)).map (Sum.map (fun z11=>(v5,z11)) (fun z12=>(v5,z12))))).map (Sum.map (fun (e10:(List Str × Str))=>(e10.2:Str)) (fun (r9:(List Str × (List Int)))=>r9.2)))) (Txt.split x ("\n":Str))) = some (if QfD x then .inr (rsI x) else .inl ("NoText":Str)):=by
 have nc:=Qc2 x
 rw [Q4r (by omega),Q7f (g:=fun l=>(Txt.split l (" ":Str)).map Yj) (ok:=fun l=>(Txt.split l (" ":Str)).all okB) _ fun y hy=>Qjb (J3 (Qa2 hy) l)]
 unfold QfD rsI wds
 rw [List.all_map,Jb]
 rfl
theorem Qjy {x:Str} (l:x.length ≤ 100000):K5 (Txt.split x ("\n":Str)) (mapM (fun x2=>(((((Q0U x2 (" ":Str))).bind fun v3=>(K5 v3 (mapM (fun x4=>(Kp x4)) v3)).map fun v8=>(v3,v8))).map fun l7=>l7.2)) (Txt.split x ("\n":Str))) = some ((wds x).map fun ws=>ws.map Q0e):=by
 have nc:=Qc2 x
 rw [Q4r (by omega),Qbg (fun l=>(Txt.split l (" ":Str)).map Q0e) fun y hy=>QiX (J3 (Qa2 hy) l)]
 unfold wds
 rw [Jb]
 rfl
theorem Qhk {x:Str} {ws:List Str} (h:ws ∈ wds x):ws.length ≤ x.length + 1:=by
 obtain ⟨l,hl,rfl⟩:=Qy.mp h
 have:=Qa2 hl
 have:=QbX l
 omega
theorem Qhi (x:Str):(wds x).length ≤ x.length + 1:=by
 unfold wds
 rw [Q4]
 exact Qc2 x
theorem QfZ (W:List (List Str)) (l:W.length ≤ 1000000):((K5 (W.map fun ws=>ws.map Q0e) (Q1F (fun x14=>(inD .none ((eLi eD) x14))) (fun x14=>(some x14)) (W.map fun ws=>ws.map Q0e))).bind fun l16=>((neD ((eLi (eLi eD)) l16) ((eLi (eLi eD)) ([])))).map fun v18=>(l16,v18)).map (fun b17=>b17.2) = some (!(W.all fun ws=>ws.all okB)):=by
 have fm:Q1F (fun x14=>(inD .none ((eLi eD) x14))) (fun x14=>(some x14)) (W.map fun ws=>ws.map Q0e) = some (((W.filter fun ws=>!ws.all okB).map fun ws=>ws.map Qee).map fun r=>r.map eO):=by
  induction W with
  | nil=>rfl
  | cons ws r ih =>
   rw [Qq]
   unfold Q1F
   rw [Qhf,Q1,ih (by simp only [Qh] at l; omega)]
   cases c:ws.all okB with
   | true=>rw [List.filter_cons_of_neg (by rw [c]; decide)]; rfl
   | false =>
    rw [List.filter_cons_of_pos (by rw [c]; decide),Qq,Qq,← Qij]
    rfl
 have ee:∀ xs:List (List (Option Int)),(eLi (eLi eD)) (xs.map fun r=>r.map eO) = (eLi (eLi eO)) xs:=fun xs=>by
  show Jt _ = Jt _
  rw [Jb]
  refine congrArg Jt (Jl fun r _=>?_)
  exact QhH _
 rw [fm,Q4r (by rw [Q4]; exact l),Q1,ee]
 have e0:(eLi (eLi eD)) ([]:List (List D)) = (eLi (eLi eO)) []:=rfl
 rw [e0,neG (gLi (gLi gO)) (by decide)]
 show some _ = some _
 congr 1
 have:(decide (((W.filter fun ws=>!ws.all okB).map fun ws=>ws.map Qee) = [])) = W.all fun ws=>ws.all okB:=by
  rw [Bool.eq_iff_iff,decide_eq_true_eq,List.map_eq_nil_iff,List.filter_eq_nil_iff,Qe]
  refine ⟨fun h ws hw=>?_,fun h ws hw=>?_⟩
  ·have:=h ws hw
   simpa using this
  ·rw [h ws hw]
   decide
 show (!decide _) = _
 rw [this]
def Qby (x:Str) (st:St):Prop:=∃ (a b:Str) (w1 w2 w3 w4:List Str),wds x = [[a,b],w1,w2,w3,w4] ∧ (([[a,b],w1,w2,w3,w4]:List (List Str)).all fun ws=>ws.all okB) = true ∧ ((2 ≤ Yj a ∧ Yj a ≤ 8) ∧ 3 ≤ Yj b ∧ Yj b ≤ 12) ∧ [(w1.length:Int),w2.length,w3.length,w4.length] = [7 * Yj a,Yj b,4 * Yj b,82] ∧ st = (Yj a,Yj b,(w1 ++ w2 ++ w3 ++ w4).map Yj)
theorem QdK (d:D) (h:Q7A "str" d = false):Vm d = some (.inl ("NoText":Str)):=by
 unfold Vm
 rw [h]
 rfl
theorem Q6d {x:Str} (l:x.length ≤ 100000):(∃ st:St,WF st ∧ NBd st.2.2 ∧ Vm (.str x) = some (.inr st) ∧ Q2k x = some ((eP3 Q0 Q0 (eTu Q0)) st) ∧ Qby x st) ∨ (Vm (.str x) = some (.inl ("NoText":Str)) ∧ Q2k x = some .none ∧ ¬ ∃ st,Qby x st):=by
 have wc:=Qhi x
 have wl:∀ ws ∈ wds x,ws.length ≤ 100001:=fun ws h=>by have:=Qhk h; omega
 have ex:Vm (.str x) = (some (if QfD x then Sum.inr (rsI x) else Jx ("NoText":Str)):Option (Str ⊕ List (List Int))).bind fun q=>match q with
  | .inl e=>some (.inl e)
  | .inr R=>(some R).bind fun R=>((if (!decide ((W0 R) = 5)) then some true else (((atI R 0)).bind fun v17=>if (!decide ((W0 v17) = 2)) then some true else (((((((((atI R 0)).bind fun v18=>((atI v18 0)).map fun v20=>(v18,v20))).bind fun b19=>((((atI R 0)).bind fun v21=>((atI v21 1)).map fun v23=>(v21,v23))).map fun b22=>(b19,b22))).bind fun b24=>(Q00 b24.1.2 b24.2.2).map fun v26=>(b24,v26))).map fun r25=>(!r25.2))))).bind fun b30=>if b30 then (some (Jx ("NoText":Str))) else ((atI R 0)).bind fun v31=>(QbC v31).bind fun t32=>((((Q1p t32.1 t32.2)).bind fun r33=>(Q8r (fun x34=>(x34.2 - x34.1)) r33).map fun v37=>(r33,v37))).bind fun l36=>((Q8r (fun x39=>(W0 x39)) (Yn R (some 1) none))).bind fun l40=>if (!decide (l40 = l36.2)) then (some (Jx ("NoText":Str))) else ((((((((((((((atI R 1)).bind fun v41=>((atI R 2)).map fun v42=>(v41,v42))).bind fun b43=>(Wg b43.1 b43.2).map fun v45=>(b43,v45))).bind fun b44=>((atI R 3)).map fun v46=>(b44,v46))).bind fun b47=>(Wg b47.1.2 b47.2).map fun v49=>(b47,v49))).bind fun b48=>((atI R 4)).map fun v50=>(b48,v50))).bind fun b51=>(Wg b51.1.2 b51.2).map fun v53=>(b51,v53))).bind fun b52=>Q2f (t32.1,t32.2,b52.2) fun found_54=>((Q0A found_54)).bind fun r55=>if (!r55) then (some (Jx ("NoText":Str))) else (some (Sum.inr found_54)):=by
  unfold Vm
  rw [if_neg (show ¬ (!(Q7A "str" (Q3 x))) = true by exact (by decide:¬ (!true) = true)),show asS (.str x) = some x from rfl,Q1,QiO (by omega),Qi,Q1]
  dsimp only
  rw [QjH l]
  cases QfD x <;> rfl
 have ed:Q2k x = (some ((wds x).map fun ws=>ws.map Q0e)).bind fun R=>((if (!decide ((W0 R) = 5)) then some true else (((atI R 0)).bind fun v13=>if (!decide ((W0 v13) = 2)) then some true else (((((K5 R (Q1F (fun x14=>(inD .none ((eLi eD) x14))) (fun x14=>(some x14)) R))).bind fun l16=>((neD ((eLi (eLi eD)) l16) ((eLi (eLi eD)) ([])))).map fun v18=>(l16,v18))).map fun b17=>b17.2)))).bind fun b22=>if b22 then (some .none) else ((atI R 0)).bind fun v23=>(QbC v23).bind fun t24=>((((asI t24.1)).bind fun c25=>if (!(decide (1 < c25) && decide (c25 < 9))) then some true else (((asI t24.2)).map fun c26=>(!(decide (2 < c26) && decide (c26 < 13)))))).bind fun b28=>if b28 then (some .none) else ((((((Q8r (fun x29=>(W0 x29)) (Yn R (some 1) none))).bind fun l30=>((((asI t24.1)).bind fun c31=>((asI t24.2)).map fun c32=>(c31,c32))).map fun b33=>(l30,b33))).bind fun b34=>((neD ((eLi eD) (List.map Q0 b34.1)) ((eLi eD) ([(Q0 (7 * b34.2.1)),t24.2,(Q0 (4 * b34.2.2)),(Q0 82)])))).map fun v36=>(b34,v36))).bind fun b35=>if b35.2 then (some .none) else ((((((((((((((atI R 1)).bind fun v37=>((atI R 2)).map fun v38=>(v37,v38))).bind fun b39=>(Wg b39.1 b39.2).map fun v41=>(b39,v41))).bind fun b40=>((atI R 3)).map fun v42=>(b40,v42))).bind fun b43=>(Wg b43.1.2 b43.2).map fun v45=>(b43,v45))).bind fun b44=>((atI R 4)).map fun v46=>(b44,v46))).bind fun b47=>(Wg b47.1.2 b47.2).map fun v49=>(b47,v49))).bind fun b48=>(some ((eP3 eD eD (eTu eD)) (t24.1,t24.2,b48.2))):=by
  unfold Q2k
  rw [QiO (by omega),Q1,Qjy l]
  rfl
 rw [ex,ed]
 clear ex ed
 have rI:rsI x = (wds x).map fun ws=>ws.map Yj:=rfl
 have aB:QfD x = (wds x).all fun ws=>ws.all okB:=rfl
 rw [rI,aB]
 unfold Qby
 generalize wds x = W at *
 simp only [Q1]
 by_cases c5':¬ (W.length = 5)
 ·right
  have n5:∀ {β:Type} (f:List Str → β),(!decide (W0 (W.map f) = 5)) = true:=fun f=>by
   have:W0 (W.map f) = (W.length:Int):=by unfold W0; rw [Q4]
   rw [this,Ji,decide_eq_false_iff_not]
   omega
  refine ⟨?_,by rw [n5]; rfl,fun ⟨_,_,_,_,_,_,_,e,_⟩=>c5' (by rw [e]; rfl)⟩
  cases (W.all fun ws=>ws.all okB) with
  | false=>rfl
  | true =>
   rw [if_pos rfl]
   dsimp only
   rw [n5]
   rfl
 have c5:=Classical.not_not.mp c5'
 obtain ⟨w0,w1,w2,w3,w4,rfl⟩:=five c5
 have l1:=wl w1 (by simp); have l2:=wl w2 (by simp); have l3:=wl w3 (by simp); have l4:=wl w4 (by simp)
 have a5:∀ {β:Type} (f:List Str → β),(!decide (W0 ([w0,w1,w2,w3,w4].map f) = 5)) = false:=fun f=>rfl
 have t0:∀ {β:Type} (f:List Str → β),atI ([w0,w1,w2,w3,w4].map f) 0 = some (f w0):=fun f=>rfl
 have t1:∀ {β:Type} (f:List Str → β),atI ([w0,w1,w2,w3,w4].map f) 1 = some (f w1):=fun f=>rfl
 have t2:∀ {β:Type} (f:List Str → β),atI ([w0,w1,w2,w3,w4].map f) 2 = some (f w2):=fun f=>rfl
 have t3:∀ {β:Type} (f:List Str → β),atI ([w0,w1,w2,w3,w4].map f) 3 = some (f w3):=fun f=>rfl
 have t4:∀ {β:Type} (f:List Str → β),atI ([w0,w1,w2,w3,w4].map f) 4 = some (f w4):=fun f=>rfl
 have fn:=QfZ [w0,w1,w2,w3,w4] (by simp)
 simp only [a5,t0,t1,t2,t3,t4,fn,Qx,if_false,Q1]
 have ll:∀ {β:Type} (f:Str → β) (ws:List Str),W0 (ws.map f) = (ws.length:Int):=fun f ws=>by unfold W0; rw [Q4]
 by_cases c2':¬ (w0.length = 2)
 ·right
  have n2:∀ {β:Type} (f:Str → β),(!decide (W0 (w0.map f) = 2)) = true:=fun f=>by
   rw [ll,Ji,decide_eq_false_iff_not]
   omega
  refine ⟨?_,by rw [n2]; rfl,fun ⟨_,_,_,_,_,_,_,e,_⟩=>c2' (by injection e with e _; rw [e]; rfl)⟩
  cases ([w0,w1,w2,w3,w4].all fun ws=>ws.all okB) with
  | false=>rfl
  | true =>
   rw [if_pos rfl]
   simp only [a5,t0,Qx,if_false,Q1]
   rw [n2]
   rfl
 have c2:=Classical.not_not.mp c2'
 obtain ⟨a,b,rfl⟩:=dtwo c2
 have n2:∀ {β:Type} (f:Str → β),(!decide (W0 ([a,b].map f) = 2)) = false:=fun f=>rfl
 simp only [n2,Qx,if_false]
 cases ca:([[a,b],w1,w2,w3,w4].all fun ws=>ws.all okB) with
 | false=>exact .inr ⟨rfl,rfl,fun ⟨_,_,_,_,_,_,_,e,f,_⟩=>by rw [← e,ca] at f; cases f⟩
 | true =>
  simp only [List.all_cons,List.all_nil,Bool.and_true,Q5] at ca
  obtain ⟨⟨oa,ob⟩,o1,o2,o3,o4⟩:=ca
  have va:Q0e a = .int (Yj a):=by unfold Q0e; rw [if_pos oa]
  have vb:Q0e b = .int (Yj b):=by unfold Q0e; rw [if_pos ob]
  have u1:∀ {β:Type} (f:Str → β),QbC ([a,b].map f) = some (f a,f b):=fun f=>rfl
  have at0:∀ {β:Type} (f:Str → β),atI ([a,b].map f) 0 = some (f a):=fun f=>rfl
  have at1:∀ {β:Type} (f:Str → β),atI ([a,b].map f) 1 = some (f b):=fun f=>rfl
  have ai:∀ i:Int,asI (.int i) = some i:=fun i=>rfl
  have cu:∀ {β:Type} (f:List Str → β),Yn ([[a,b],w1,w2,w3,w4].map f) (some 1) none = [f w1,f w2,f w3,f w4]:=fun f=>rfl
  simp only [if_true,a5,n2,t0,t1,t2,t3,t4,u1,at0,at1,va,vb,ai,Qi,Q1,Xa,Qx,if_false,cu]
  have sh:Q00 (Yj a) (Yj b) = some ((decide (2 ≤ Yj a) && decide (Yj a ≤ 8)) && (decide (3 ≤ Yj b) && decide (Yj b ≤ 12))):=rfl
  rw [sh]
  simp only [Qi,Q1]
  by_cases cs':¬ ((2 ≤ Yj a ∧ Yj a ≤ 8) ∧ 3 ≤ Yj b ∧ Yj b ≤ 12)
  ·right
   have e1:(!((decide (2 ≤ Yj a) && decide (Yj a ≤ 8)) && (decide (3 ≤ Yj b) && decide (Yj b ≤ 12)))) = true:=by
    rw [Ji,← Bool.not_eq_true]
    intro q
    simp only [Q5,decide_eq_true_eq] at q
    exact cs' q
   rw [e1]
   refine ⟨rfl,?_,fun ⟨_,a',b',_,_,_,_,e,_,f,_⟩=>cs' (by
    injection e with e _
    injection e with e1 e2
    injection e2 with e2 _
    rw [e1,e2]
    exact f)⟩
   by_cases c1:1 < Yj a ∧ Yj a < 9
   ·rw [decide_eq_true c1.1,decide_eq_true c1.2]
    have e2:(!(decide (2 < Yj b) && decide (Yj b < 13))) = true:=by
     rw [Ji,← Bool.not_eq_true]
     intro q
     simp only [Q5,decide_eq_true_eq] at q
     exact cs' ⟨by omega,by omega⟩
    rw [e2]
    rfl
   ·have e2:(!(decide (1 < Yj a) && decide (Yj a < 9))) = true:=by
     rw [Ji,← Bool.not_eq_true]
     intro q
     simp only [Q5,decide_eq_true_eq] at q
     exact c1 q
    rw [e2]
    rfl
  have cs:=Classical.not_not.mp cs'
  obtain ⟨⟨h2,h8⟩,b3,b12⟩:=cs
  rw [decide_eq_true h2,decide_eq_true h8,decide_eq_true b3,decide_eq_true b12,decide_eq_true (show 1 < Yj a by omega),decide_eq_true (show Yj a < 9 by omega),decide_eq_true (show 2 < Yj b by omega),decide_eq_true (show Yj b < 13 by omega)]
  simp only [Bool.and_true,Xa,Qx,if_false,Q1]
  rw [Qes b3 b12]
  have mc1:Q8r (fun x34:Int × Int=>(x34.2 - x34.1)) [(0,7 * Yj a),(7 * Yj a,7 * Yj a + Yj b),(7 * Yj a + Yj b,7 * Yj a + Yj b + 4 * Yj b),(7 * Yj a + Yj b + 4 * Yj b,7 * Yj a + 5 * Yj b + 82)] = some [7 * Yj a - 0,7 * Yj a + Yj b - 7 * Yj a,7 * Yj a + Yj b + 4 * Yj b - (7 * Yj a + Yj b),7 * Yj a + 5 * Yj b + 82 - (7 * Yj a + Yj b + 4 * Yj b)]:=rfl
  have mc2:∀ {β:Type} (f:Str → β),Q8r (fun x39:List β=>(W0 x39)) [w1.map f,w2.map f,w3.map f,w4.map f] = some [(w1.length:Int),w2.length,w3.length,w4.length]:=fun f=>by
   show some [W0 (w1.map f),W0 (w2.map f),W0 (w3.map f),W0 (w4.map f)] = _
   rw [ll,ll,ll,ll]
  have ne:neD ((eLi eD) (List.map Q0 [(w1.length:Int),w2.length,w3.length,w4.length])) ((eLi eD) ([(Q0 (7 * Yj a)),.int (Yj b),(Q0 (4 * Yj b)),(Q0 82)])) = some (!decide ([(w1.length:Int),w2.length,w3.length,w4.length] = [7 * Yj a,Yj b,4 * Yj b,82])):=by
   have:=neG (gLi gI) (by decide) [(w1.length:Int),w2.length,w3.length,w4.length] [7 * Yj a,Yj b,4 * Yj b,82]
   rw [QhH,QhH]
   exact this
  rw [Q1,mc1,mc2 Yj,mc2 Q0e]
  simp only [Qi,Q1]
  rw [ne]
  simp only [Qi,Q1]
  have eqs:([(w1.length:Int),w2.length,w3.length,w4.length] = [7 * Yj a - 0,7 * Yj a + Yj b - 7 * Yj a,7 * Yj a + Yj b + 4 * Yj b - (7 * Yj a + Yj b),7 * Yj a + 5 * Yj b + 82 - (7 * Yj a + Yj b + 4 * Yj b)]) ↔ ([(w1.length:Int),w2.length,w3.length,w4.length] = [7 * Yj a,Yj b,4 * Yj b,82]):=by
   simp only [Xd.injEq,and_true]
   omega
  rw [decide_eq_decide.mpr eqs]
  by_cases cl':¬ ([(w1.length:Int),w2.length,w3.length,w4.length] = [7 * Yj a,Yj b,4 * Yj b,82])
  ·right
   rw [decide_eq_false cl']
   exact ⟨rfl,rfl,fun ⟨_,a',b',_,_,_,_,e,_,_,f,_⟩=>cl' (by
    injection e with e e3
    injection e with e1 e2
    injection e2 with e2 _
    injection e3 with e3 e4
    injection e4 with e4 e5
    injection e5 with e5 e6
    injection e6 with e6 _
    rw [e1,e2,e3,e4,e5,e6]
    exact f)⟩
  have cl:=Classical.not_not.mp cl'
  left
  rw [decide_eq_true cl]
  simp only [Xd.injEq,and_true] at cl
  obtain ⟨k1,k2,k3,k4⟩:=cl
  have cq:∀ {β:Type} (f:Str → β) (p q:List Str),p.length + q.length ≤ 600000 → Wg (p.map f) (q.map f) = some ((p ++ q).map f):=fun f p q hl=>by
   rw [Qkk (by rw [Q4,Q4]; omega),Jw]
  simp only [Xa,Qx,if_false]
  rw [cq Yj w1 w2 (by omega),cq Q0e w1 w2 (by omega)]
  simp only [Qi,Q1]
  rw [cq Yj (w1 ++ w2) w3 (by rw [Qb]; omega),cq Q0e (w1 ++ w2) w3 (by rw [Qb]; omega)]
  simp only [Qi,Q1]
  rw [cq Yj (w1 ++ w2 ++ w3) w4 (by simp only [Qb]; omega),cq Q0e (w1 ++ w2 ++ w3) w4 (by simp only [Qb]; omega)]
  simp only [Qi,Q1]
  have ao:(w1 ++ w2 ++ w3 ++ w4).all okB = true:=by
   simp only [List.all_append,o1,o2,o3,o4]
   rfl
  have w:WF (Yj a,Yj b,(w1 ++ w2 ++ w3 ++ w4).map Yj):=⟨h2,h8,b3,b12,by
   show (((w1 ++ w2 ++ w3 ++ w4).map Yj).length:Int) = _
   rw [Q4]
   simp only [Qb]
   omega⟩
  refine ⟨(Yj a,Yj b,(w1 ++ w2 ++ w3 ++ w4).map Yj),w,NBd.map ao,?_,?_,a,b,w1,w2,w3,w4,rfl,?_,⟨⟨h2,h8⟩,b3,b12⟩,?_,rfl⟩
  ·show (Q0A _).bind _ = _
   rw [Qf9 w (by show ((w1 ++ w2 ++ w3 ++ w4).map Yj).length ≤ _; rw [Q4]; simp only [Qb]; omega)]
   rfl
  ·rw [Qkc ao]
   show some (PyData.tuple [.int (Yj a),.int (Yj b),.tuple ((((w1 ++ w2 ++ w3 ++ w4).map Yj).map Q0).map eD)]) = _
   have:∀ ds:List D,ds.map eD = ds:=fun ds=>X9 ds
   rw [this]
   rfl
  ·simp only [List.all_cons,List.all_nil,oa,ob,o1,o2,o3,o4]
   rfl
  ·simp only [Xd.injEq,and_true]
   omega
end K05
namespace K05
open PySem PySem.Spec PyProof.Rows L2 Z
variable {ι τ σ ρ:Type}
open TL
theorem Qi2 {i:Int} (h0:-NB ≤ i) (h1:i ≤ NB):okB (nT i) = true ∧ Q0t (nT i) = some i:=by
 unfold NB at h0 h1
 have dall:∀ n,(numL n).all dgB = true:=fun n=>Qe.mpr fun c hc=>decide_eq_true (numL_digits n c hc)
 cases i with
 | ofNat n =>
  have hn:n < 10 ^ 40:=by
   have h1:(n:Int) ≤ 10 ^ 40 - 1:=h1
   omega
  have e:=QbQ n
  have l2:(numL n).length ≤ 40:=numL_len (by decide) hn
  have l3:1 ≤ (numL n).length:=by
   cases q:numL n with
   | nil=>exact absurd q (numL_ne n)
   | cons a t=>simp
  have ll:(nT (n:Int)).length = (numL n).length:=by rw [len_tl,e]
  show okB (nT (n:Int)) = true ∧ Q0t (nT (n:Int)) = some (n:Int)
  have ne:¬ cutS (nT (n:Int)) none (some 1) = ("-":Str):=fun q=>by
   have q:=Qc6.mp q
   rw [Q4L,e,Q1y (by decide)] at q
   have q:(numL n).take 1 = [45]:=q
   cases r:numL n with
   | nil=>exact absurd r (numL_ne n)
   | cons a t =>
    rw [r] at q
    have q:[a] = [45]:=q
    injection q with q
    have:=numL_digits n a (by rw [r]; exact Q7 ..)
    omega
  have fe:fig (nT (n:Int)) = nT (n:Int):=if_neg (by rw [decide_eq_false ne]; decide)
  refine ⟨?_,?_⟩
  ·unfold okB
   rw [fe,e,ll,decide_eq_true l3,decide_eq_true l2,dall]
   by_cases c:(numL n).head? = some 48
   ·have n0:n = 0:=by
     cases q:numL n with
     | nil=>exact absurd q (numL_ne n)
     | cons a t =>
      rw [q] at c
      have c:a = 48:=by injection c
      subst c
      exact Q8K n t q
    rw [decide_eq_true (show nT (n:Int) = ("0":Str) by rw [n0]; rfl)]
    simp
   ·rw [decide_eq_false c]
    rfl
  ·unfold Q0t
   rw [if_pos (by omega)]
   exact int_num (by omega)
 | negSucc n =>
  have hn:n + 1 < 10 ^ 40:=by omega
  have e:=Qc7 n
  have l2:(numL (n + 1)).length ≤ 40:=numL_len (by decide) hn
  have l3:1 ≤ (numL (n + 1)).length:=by
   cases q:numL (n + 1) with
   | nil=>exact absurd q (numL_ne _)
   | cons a t=>simp
  have ll:(nT (Int.negSucc n)).length = (numL (n + 1)).length + 1:=by rw [len_tl,e,Qh]
  have eq:cutS (nT (Int.negSucc n)) none (some 1) = ("-":Str):=ext_tl (by
   rw [Q4L,e,Q1y (by decide)]
   rfl)
  have e2:tl (cutS (nT (Int.negSucc n)) (some 1) none) = numL (n + 1):=by
   rw [Q4L,e,Q0l (by decide)]
   rfl
  have fe:fig (nT (Int.negSucc n)) = cutS (nT (Int.negSucc n)) (some 1) none:=if_pos (decide_eq_true eq)
  refine ⟨?_,?_⟩
  ·unfold okB
   rw [fe,e2,len_tl,e2,decide_eq_true l3,decide_eq_true l2,dall]
   have c:¬ (numL (n + 1)).head? = some 48:=fun c=>by
    cases q:numL (n + 1) with
    | nil=>exact absurd q (numL_ne _)
    | cons a t =>
     rw [q] at c
     have c:a = 48:=by injection c
     subst c
     have:=Q8K _ t q
     omega
   rw [decide_eq_false c]
   rfl
  ·unfold Q0t
   rw [if_pos (by omega)]
   have:=PySem.intText_neg (x:=nT (Int.negSucc n)) (cs:=numL (n + 1)) e (numL_digits _) (numL_ne _) (by omega)
   rw [numL_val] at this
   exact this
theorem Q9r {xs:List Int} (h:NBd xs):(xs.map nT).all okB = true ∧ (xs.map nT).map Yj = xs:=by
 refine ⟨?_,?_⟩
 ·rw [List.all_map,Qe]
  exact fun i hi=>(Qi2 (h i hi).1 (h i hi).2).1
 ·rw [Jb]
  have:xs.map (Yj ∘ nT) = xs.map id:=Jl fun i hi=>by
   show (Q0t (nT i)).getD 0 = i
   rw [(Qi2 (h i hi).1 (h i hi).2).2]
   rfl
  rw [this,X9]
theorem Qak {st:St} (w:WF st):(Yn st.2.2 none (some (7 * st.1))).length = (7 * st.1).toNat ∧ (Yn st.2.2 (some (7 * st.1)) (some ((7 * st.1) + st.2.1))).length = st.2.1.toNat ∧ (Yn st.2.2 (some ((7 * st.1) + st.2.1)) (some ((7 * st.1) + (5 * st.2.1)))).length = (4 * st.2.1).toNat ∧ (Yn st.2.2 (some ((7 * st.1) + (5 * st.2.1))) none).length = 82:=by
 have ⟨q1,q2,q3,q4,q5⟩:=w
 refine ⟨?_,?_,?_,?_⟩
 ·rw [Q1y (by omega),Jr]
  omega
 ·rw [Q5C (by omega) (by omega) (by omega),Jr,Xf]
  omega
 ·rw [Q5C (by omega) (by omega) (by omega),Jr,Xf]
  omega
 ·rw [Q0l (by omega),Xf]
  omega
theorem Qeh {st:St} (w:WF st):((Yn st.2.2 none (some (7 * st.1)) ++ Yn st.2.2 (some (7 * st.1)) (some ((7 * st.1) + st.2.1))) ++ Yn st.2.2 (some ((7 * st.1) + st.2.1)) (some ((7 * st.1) + (5 * st.2.1)))) ++ Yn st.2.2 (some ((7 * st.1) + (5 * st.2.1))) none = st.2.2:=by
 have ⟨q1,q2,q3,q4,q5⟩:=w
 rw [Q1y (by omega),Q5C (by omega) (by omega) (by omega),Q5C (by omega) (by omega) (by omega),Q0l (by omega)]
 rw [List.append_assoc,List.append_assoc]
 have e3:∀ (n m:Nat),(st.2.2.drop n).take m ++ st.2.2.drop (n + m) = st.2.2.drop n:=fun n m=>by
  rw [← List.drop_drop]
  exact List.take_append_drop m (st.2.2.drop n)
 have t:=e3 (7 * st.1 + st.2.1).toNat (7 * st.1 + 5 * st.2.1 - (7 * st.1 + st.2.1)).toNat
 rw [show (7 * st.1 + st.2.1).toNat + (7 * st.1 + 5 * st.2.1 - (7 * st.1 + st.2.1)).toNat = (7 * st.1 + 5 * st.2.1).toNat by omega] at t
 rw [t]
 have t2:=e3 (7 * st.1).toNat (7 * st.1 + st.2.1 - 7 * st.1).toNat
 rw [show (7 * st.1).toNat + (7 * st.1 + st.2.1 - 7 * st.1).toNat = (7 * st.1 + st.2.1).toNat by omega] at t2
 rw [t2]
 exact List.take_append_drop _ _
theorem QcN {st:St} (w:WF st) (h:NBd st.2.2):Qby (stT st) st:=by
 have ⟨q1,q2,q3,q4,q5⟩:=w
 have ⟨m1,m2,m3,m4⟩:=Qak w
 have R:=Q5n w h
 have s1:Txt.split (stT st) ("\n":Str) = (Vv st).map Q1k:=by
  have:=QfV w h
  unfold Q0U at this
  split at this
  ·injection this
  ·cases this
 have ne:∀ r ∈ Vv st,r ≠ []:=fun r hr e=>by
  unfold Vv at hr
  simp only [Qg,Qu,or_false] at hr
  rcases hr with z | z | z | z | z
  ·rw [z] at e; cases e
  ·rw [← z,e] at m1; simp only [Qw] at m1; omega
  ·rw [← z,e] at m2; simp only [Qw] at m2; omega
  ·rw [← z,e] at m3; simp only [Qw] at m3; omega
  ·rw [← z,e] at m4; simp only [Qw] at m4; omega
 have s2:∀ r ∈ Vv st,Txt.split (Q1k r) (" ":Str) = r.map nT:=fun r hr=>by
  have ⟨a,b⟩:=R r hr
  have:=QgO a b (ne r hr)
  unfold Q0U at this
  split at this
  ·injection this
  ·cases this
 have e:wds (stT st) = (Vv st).map fun r=>r.map nT:=by
  unfold wds
  rw [s1,Jb]
  exact Jl fun r hr=>s2 r hr
 have hb:NBd [st.1,st.2.1]:=(R _ (by simp [Vv])).1
 have v0:=Q9r hb
 have va:Yj (nT st.1) = st.1:=by
  have:=v0.2
  injection this
 have vb:Yj (nT st.2.1) = st.2.1:=by
  have:=v0.2
  injection this with _ this
  injection this
 refine ⟨nT st.1,nT st.2.1,_,_,_,_,e,?_,?_,?_,?_⟩
 ·simp only [List.all_cons,List.all_nil,(Q9r (h.cut _ _)).1,Bool.and_true]
  have:=v0.1
  simp only [Qq,List.map_nil,List.all_cons,List.all_nil,Bool.and_true] at this
  exact this
 ·rw [va,vb]
  exact ⟨⟨q1,q2⟩,q3,q4⟩
 ·rw [va,vb]
  simp only [Q4,Xd.injEq,and_true]
  rw [m1,m2,m3,m4]
  omega
 ·rw [va,vb]
  simp only [Jw,(Q9r (h.cut _ _)).2]
  rw [Qeh w]
theorem Qby.one {x:Str} {s t:St} (h:Qby x s) (k:Qby x t):s = t:=by
 obtain ⟨a,b,w1,w2,w3,w4,e,_,_,_,rfl⟩:=h
 obtain ⟨a',b',w1',w2',w3',w4',e',_,_,_,rfl⟩:=k
 rw [e] at e'
 injection e' with e1 e2
 injection e1 with e1 e3
 injection e3 with e3 _
 injection e2 with e2 e4
 injection e4 with e4 e5
 injection e5 with e5 e6
 injection e6 with e6 _
 rw [e1,e3,e2,e4,e5,e6]
theorem Qba {k:Nat}:∀ rs:List (List Int),(∀ r ∈ rs,NBd r) → ((rs.map Q1k).map (·.length)).sum ≤ 42 * (rs.map List.length).sum
 | [],_=>by simp
 | r :: rs,h=>by
  have a:=Q5F (h r (Q7 ..))
  have b:=Qba (k:=k) rs fun z hz=>h z (Q6 _ hz)
  simp only [Qq,List.sum_cons]
  omega
theorem Q9Q {st:St} (w:WF st) (h:NBd st.2.2):(stT st).length ≤ 8500:=by
 have ⟨q1,q2,q3,q4,q5⟩:=w
 have ⟨m1,m2,m3,m4⟩:=Qak w
 have R:=Q5n w h
 have j:(stT st).length ≤ (((Vv st).map Q1k).map (·.length)).sum + ((Vv st).map Q1k).length * ("\n":Str).length:=by
  unfold stT
  rw [join_eq]
  exact PySem.StrLaws.join_length_le _ _
 have a:=Qba (k:=0) (Vv st) fun r hr=>(R r hr).1
 have l5:((Vv st).map Q1k).length = 5:=rfl
 have l1:(("\n":Str)).length = 1:=by decide
 have ls:((Vv st).map List.length).sum = 2 + (7 * st.1).toNat + st.2.1.toNat + (4 * st.2.1).toNat + 82:=by
  unfold Vv
  simp only [Qq,List.map_nil,List.sum_cons,List.sum_nil,m1,m2,m3,m4,Qh,Qw]
  omega
 rw [l5,l1] at j
 omega
theorem QdR {st:St} (w:WF st) (h:NBd st.2.2):Vm (.str (stT st)) = some (.inr st):=by
 have l:=Q9Q w h
 rcases Q6d (x:=stT st) (by omega) with ⟨s,_,_,e,_,r⟩ | ⟨_,_,n⟩
 ·rw [e,r.one (QcN w h)]
 ·exact absurd ⟨st,QcN w h⟩ n
theorem Qce {d:D} (e:Vm d = some (.inl ("NoText":Str))):Z3 d = some true:=by
 unfold Z3
 rw [e]
 decide +kernel
theorem Qbz (d:D) (h:Q7A "str" d = false):okQ (Q07 d) = some true:=by
 unfold Q07
 rw [h,Qce (QdK d h)]
 rfl
theorem Qay {x:Str} (l:x.length ≤ 1000000):okQ (Q07 (.str x)) = some true:=by
 have sb:(1000000:Nat) ≤ sizeLine:=by decide
 have ln:(Zp (.str x)).bind asI = some (x.length:Int):=by
  show ((if x.length ≤ sizeLine then some (Q0 x.length) else none)).bind asI = _
  rw [if_pos (by omega)]
  rfl
 have is:Q7A "str" (.str x) = true:=rfl
 unfold Q07
 rw [is,if_pos rfl,ln,Qi,Q1]
 by_cases c:12000 < x.length
 ·rw [decide_eq_true (show (12000:Int) < (x.length:Int) by omega)]
  rfl
 ·rw [decide_eq_false (show ¬ (12000:Int) < (x.length:Int) by omega),if_neg (by decide),if_pos rfl,show asS (.str x) = some x from rfl,Q1]
  rcases Q6d (x:=x) (by omega) with ⟨st,w,b,e1,e2,_⟩ | ⟨e1,e2,_⟩
  ·have bg:Bg st:=fun c hc=>by
    have:=b c hc
    unfold NB at this
    omega
   obtain ⟨z,hz,_⟩:=Qem w bg (P:=fun _=>True) trivial
   rw [e2,Qi,Qi,Q1,if_neg (show ¬ Qgw ((eP3 Q0 Q0 (eTu Q0)) st) = true by exact (by decide:¬ false = true)),e1]
   show okQ (((((Q52 _).map _).bind _).bind _)) = _
   rw [hz,Qi,Q1,Qi,Q1,decide_eq_true rfl]
   rfl
  ·rw [e2,Qi,Qi,Q1,if_pos (by rfl),Qce e1]
   rfl
end K05
namespace K05
open PySem PySem.Spec PyProof.Rows L2 Z
variable {ι τ σ ρ:Type}
open TL
theorem Qas:∀ (xs:List (Array Nat)) (a:Array Nat),(xs.foldl (· ++ ·) a).toList = a.toList ++ (xs.map Array.toList).flatten
 | [],a=>by simp
 | x :: xs,a=>by
  rw [List.foldl_cons,Qas xs,Array.toList_append,Qq,List.flatten_cons,List.append_assoc]
theorem Qfc (x:Str) (n:Int):tl (Txt.mul x n) = (Qn n.toNat (tl x)).flatten:=by
 unfold Txt.mul
 by_cases c:n < 1
 ·rw [if_pos c,show n.toNat = 0 by omega]
  rfl
 ·rw [if_neg c]
  by_cases d:(n == 1 || x.length == 0) = true
  ·rw [if_pos d]
   rcases (Jg _ _).mp d with e | e
   ·have:n = 1:=by simpa using e
    rw [this]
    show tl x = (Qn 1 (tl x)).flatten
    simp
   ·have l0:x.length = 0:=by simpa using e
    have:tl x = []:=by
     rw [len_tl] at l0
     exact List.eq_nil_of_length_eq_zero l0
    rw [this]
    simp
  ·rw [if_neg d]
   show ((Qn n.toNat x.cps).foldl (· ++ ·) #[]).toList = _
   rw [Qas,List.map_replicate]
   rfl
theorem Q2I (x:Str) (n:Int):(Txt.mul x n).length = n.toNat * x.length:=by
 rw [len_tl,Qfc,len_tl,List.length_flatten,List.map_replicate,List.sum_replicate_nat]
theorem W6 (a b:Str):(a ++ b).length = a.length + b.length:=by
 rw [len_tl,tl_append,Qb,← len_tl,← len_tl]
theorem Q56 (x:Str) (lo hi:Option Int):(cutS x lo hi).length ≤ x.length:=by
 rw [len_tl,Q4L,len_tl]
 exact Qbh _ _
theorem Zy {a b:Str} {P:Str → Prop} (h:a.length + b.length ≤ 1000000) (p:P (a ++ b)):Wt (Q1e a b) P:=by
 have sb:(1000000:Nat) ≤ sizeLine:=by decide
 exact ⟨_,if_pos (by omega),p⟩
theorem Q6J {x:Str} {lo hi:Option Int} {P:Str → Prop} (h:x.length ≤ 1000000) (p:P (cutS x lo hi)):Wt (Q0v x lo hi) P:=by
 have sb:(1000000:Nat) ≤ sizeLine:=by decide
 exact ⟨_,if_pos (by omega),p⟩
theorem QbL {a:Str} {k:Int} (h0:0 ≤ k) (h1:k ≤ 1000000) (h2:a.length * k.toNat ≤ 1000000):Ku a k = some (Txt.mul a k):=by
 unfold Ku
 rw [decide_eq_true h0,decide_eq_true h1,decide_eq_true h2]
 rfl
def tot (ys:List Str):Nat:=(ys.map (·.length)).sum + ys.length
theorem V7 (p q:List Str):tot (p ++ q) = tot p + tot q:=by
 unfold tot
 rw [Jw,List.sum_append,Qb]
 omega
theorem Q7U (y:Str) (q:List Str):tot (y :: q) = y.length + 1 + tot q:=by
 unfold tot
 rw [Qq,List.sum_cons,Qh]
 omega
theorem QcB (p:List Str):tot p.reverse = tot p:=by
 induction p with
 | nil=>rfl
 | cons y p ih =>
  rw [List.reverse_cons,V7,ih,Q7U,Q7U]
  show tot p + (y.length + 1 + 0) = _
  omega
theorem Q3w (ys:List Str) (n:Nat):tot (ys.take n) + tot (ys.drop n) = tot ys:=by
 rw [← V7,List.take_append_drop]
theorem Q6X (ys:List Str):ys.length ≤ tot ys:=by unfold tot; omega
theorem Qj5 (ys:List Str) (n m:Nat):tot (ys.drop (n + m)) ≤ tot (ys.drop n):=by
 rw [← List.drop_drop]
 have:=Q3w (ys.drop n) m
 omega
theorem Q9z (y:Str):tot [y] = y.length + 1:=by rw [Q7U]; rfl
theorem Q9i (ys:List Str) (lo hi:Option Int):tot (Yn ys lo hi) ≤ tot ys:=by
 have d:∀ n,tot (ys.drop n) ≤ tot ys:=fun n=>by have:=Q3w ys n; omega
 have t:∀ (zs:List Str) (n:Nat),tot (zs.take n) ≤ tot zs:=fun zs n=>by have:=Q3w zs n; omega
 unfold Yn
 exact J3 (t _ _) (d _)
theorem Q2P {sep:Str} (hs:sep.length = 1) {ys:List Str} {P:Str → Prop} (h:tot ys ≤ 1000000) (p:∀ z:Str,z.length ≤ tot ys → P z):Wt (Q1V sep ys) P:=by
 unfold tot at h p
 refine ⟨_,if_pos (by rw [hs]; omega),p _ ?_⟩
 rw [join_eq]
 have:=PySem.StrLaws.join_length_le sep ys
 rw [hs] at this
 omega
theorem Kc {p q:List Str} {P:List Str → Prop} (h:tot p + tot q ≤ 1000000) (k:P (p ++ q)):Wt (Wg p q) P:=by
 have:=Q6X p; have:=Q6X q
 exact Q4z (by omega) k
theorem Q99 {ys:List Str} {a:Int} (a0:0 ≤ a):tot (Yn ys none (some a)) + tot (Yn ys (some (a + 1)) none) ≤ tot ys:=by
 rw [Q1y a0,Q0l (by omega),show (a + 1).toNat = a.toNat + 1 by omega]
 have:=Qj5 ys a.toNat 1
 have:=Q3w ys a.toNat
 omega
theorem Qdt {ys:List Str} {a:Int} (a0:0 ≤ a) (a1:a ≤ ys.length):tot (Yn ys none (some a)) + tot (Yn ys (some a) (some (a + 2))) + tot (Yn ys (some (a + 2)) none) ≤ tot ys:=by
 rw [Q1y a0,Q5C a0 a1 (by omega),Q0l (by omega),show (a + 2).toNat = a.toNat + 2 by omega,show (a + 2 - a).toNat = 2 by omega,← List.drop_drop]
 have:=Q3w ys a.toNat
 have:=Q3w (ys.drop a.toNat) 2
 omega
theorem QjZ {k:Dk} {z:Str} (hk:k.cs.length ≤ 63) (h0:0 < z.length) (h1:z.length < 1000) {P:Str × Dk → Prop} (h:∀ y k',y.length = 1 → k'.cs.length ≤ 63 → P (y,k')):Wt (Wm k z) P:=by
 have sb:(1000000:Nat) ≤ sizeLine:=by decide
 have ls:Q5z z = some (z.length:Int):=if_pos (by omega)
 unfold Wm
 rw [ls,Q1]
 refine Xn (Xn (Y4 (Yf hk (by omega) (by omega) fun i k' i0 i1 hk'=>?_)))
 refine Y4 ?_
 unfold sIx
 rw [if_pos (show z.length ≤ sizeLine by omega)]
 have zl:z.cps.toList.length = z.length:=Array.length_toList
 refine Y4 (Q2W i0 (by dsimp only; omega) fun c _=>Y5 (h _ k' rfl hk'))
theorem QcP {k:Dk} (hk:k.cs.length ≤ 63) {P:Str × Dk → Prop} (h:∀ y k',y.length = 1 → k'.cs.length ≤ 63 → P (y,k')):Wt (Q3s k) P:=by
 unfold Q3s
 refine Yy ?_
 have l1:((" !\"#$&'()*+,-./0123456789:;<=>?@ABCDEFGHIJKLMNOPQRSTUVWXYZ[\\]^_`abcdefghijklmnopqrstuvwxyz{|}~\n":Str)).length ≤ 200:=by decide +kernel
 have l2:(("0123456789 -\n":Str)).length = 13:=by decide +kernel
 rw [QbL (by decide) (by decide) (by rw [l2]; decide),Q1]
 have l3:=Q2I ("0123456789 -\n":Str) 6
 rw [l2] at l3
 have l3:(Txt.mul ("0123456789 -\n":Str) 6).length = 78:=l3
 refine Xn (Xn (Y4 (Zy (by omega) (Y4 (QjZ hk (by rw [W6]; omega) (by rw [W6]; omega) fun y k' hy hk'=>Y5 (h y k' hy hk'))))))
theorem QjP {k:Dk} {xs:List Str} {P:Str × Dk → Prop} (hk:k.cs.length ≤ 63) (h0:0 < xs.length) (h1:xs.length < 1000) (h:∀ x ∈ xs,∀ k':Dk,k'.cs.length ≤ 63 → P (x,k')):Wt (Wo k xs) P:=by
 unfold Wo W0
 exact Xn (Xn (Yf hk (by omega) (by omega) fun i k' i0 i1 hk'=>Y4 (Q2W i0 (by dsimp only; omega) fun x hx=>Y5 (h x hx k' hk'))))
theorem QjE {k:Dk} {xs:List Str} {P:Str × Dk → Prop} (hk:k.cs.length ≤ 63) (h0:0 < xs.length) (h1:xs.length < 1000) (h:∀ x ∈ xs,∀ k':Dk,k'.cs.length ≤ 63 → P (x,k')):Wt (Wl k xs) P:=by
 unfold Wl W0
 exact Xn (Xn (Yf hk (by omega) (by omega) fun i k' i0 i1 hk'=>Y4 (Q2W i0 (by dsimp only; omega) fun x hx=>Y5 (h x hx k' hk'))))
theorem Qj2 {k:Dk} {xs:List Str} {P:Str × Dk → Prop} (hk:k.cs.length ≤ 63) (h0:0 < xs.length) (h1:xs.length < 1000) (h:∀ x ∈ xs,∀ k':Dk,k'.cs.length ≤ 63 → P (x,k')):Wt (W5 k xs) P:=by
 unfold W5 W0
 exact Xn (Xn (Yf hk (by omega) (by omega) fun i k' i0 i1 hk'=>Y4 (Q2W i0 (by dsimp only; omega) fun x hx=>Y5 (h x hx k' hk'))))
theorem Qhm {k:Dk} (hk:k.cs.length ≤ 63) {P:Str × Dk → Prop} (h:∀ y k',y.length ≤ 700 → k'.cs.length ≤ 63 → P (y,k')):Wt (Q5b k) P:=by
 have o9:(("9":Str)).length = 1:=by decide
 have o0:(("0":Str)).length = 1:=by decide
 have o1:(("1":Str)).length = 1:=by decide
 have o7:(("7":Str)).length = 1:=by decide
 have om:(("-":Str)).length = 1:=by decide
 have e1:Ku ("9":Str) 40 = some (Txt.mul ("9":Str) 40):=QbL (by decide) (by decide) (by rw [o9]; decide)
 have e2:Ku ("9":Str) 41 = some (Txt.mul ("9":Str) 41):=QbL (by decide) (by decide) (by rw [o9]; decide)
 have e3:Ku ("0":Str) 39 = some (Txt.mul ("0":Str) 39):=QbL (by decide) (by decide) (by rw [o0]; decide)
 have e4:Ku ("0":Str) 40 = some (Txt.mul ("0":Str) 40):=QbL (by decide) (by decide) (by rw [o0]; decide)
 have l1:(Txt.mul ("9":Str) 40).length = 40:=by rw [Q2I,o9]; rfl
 have l2:(Txt.mul ("9":Str) 41).length = 41:=by rw [Q2I,o9]; rfl
 have l3:(Txt.mul ("0":Str) 39).length = 39:=by rw [Q2I,o0]; rfl
 have l4:(Txt.mul ("0":Str) 40).length = 40:=by rw [Q2I,o0]; rfl
 have sb:(1000000:Nat) ≤ sizeLine:=by decide
 have ce:∀ a b:Str,a.length + b.length ≤ 1000 → Q1e a b = some (a ++ b):=fun a b q=>if_pos (by omega)
 have c1:=ce ("-":Str) (Txt.mul ("9":Str) 40) (by omega)
 have c2:=ce ("-":Str) (Txt.mul ("9":Str) 41) (by omega)
 have c3:=ce ("1":Str) (Txt.mul ("0":Str) 39) (by omega)
 have c4:=ce ("1":Str) (Txt.mul ("0":Str) 40) (by omega)
 unfold Q5b
 refine Yy ?_
 simp only [e1,e2,e3,e4,c1,c2,c3,c4,Q1,Qi]
 have all1:∀ y ∈ ([("-0":Str),("00":Str),("01":Str),("+1":Str),("1_0":Str),("1.0":Str),("":Str),("-":Str),("--1":Str),("-01":Str),("0":Str),("1":Str),("-1":Str),(".":Str),("None":Str),("1,2":Str),("0x1":Str),("- 1":Str)]:List Str),y.length ≤ 700:=by decide +kernel
 have all2:∀ y ∈ ([Txt.mul ("9":Str) 40,Txt.mul ("9":Str) 41,("-":Str) ++ Txt.mul ("9":Str) 40,("-":Str) ++ Txt.mul ("9":Str) 41,("1":Str) ++ Txt.mul ("0":Str) 39,("1":Str) ++ Txt.mul ("0":Str) 40,("2":Str),("3":Str),("8":Str),("9":Str)]:List Str),y.length ≤ 700:=fun y hy=>by
  simp only [Qg,Qu,or_false] at hy
  rcases hy with rfl | rfl | rfl | rfl | rfl | rfl | rfl | rfl | rfl | rfl
  ·omega
  ·omega
  ·rw [W6]; omega
  ·rw [W6]; omega
  ·rw [W6]; omega
  ·rw [W6]; omega
  all_goals decide
 refine Xn (Y4 (Q4z (by simp) ?_))
 dsimp only
 refine Xn (Xn (Xn (Xn (Yf hk (by omega) (by omega) fun r k' r0 r1 hk'=>?_))))
 dsimp only
 rw [QbL (by omega) (by omega) (by rw [o7]; omega)]
 refine Y5 (Y4 (Q4z (by simp) (Y4 (QjP hk' (by simp) (by simp) fun y hy k2 hk2=>Y5 (h y k2 ?_ hk2)))))
 rcases Qc.mp hy with q | q
 ·rcases Qc.mp q with q | q
  ·exact all1 y q
  ·exact all2 y q
 ·simp only [Qg,Qu,or_false] at q
  rcases q with rfl | rfl | rfl
  ·decide
  ·decide
  ·rw [Q2I,o7]
   omega
theorem Qir (x:Str):tot (Txt.split x ("\n":Str)) = x.length + 1:=Q98 x
theorem Qjx (x:Str):tot (Txt.split x (" ":Str)) = x.length + 1:=Q9E x
theorem QgV {k:Dk} (hk:k.cs.length ≤ 63) {x:Str} (l:x.length ≤ 100000) {w:Int} (hw:w = 0 ∨ w = 1 ∨ w = 2 ∨ w = 3) {P:Str × Dk → Prop} (h:∀ y k',y.length ≤ 2 * x.length + 703 → k'.cs.length ≤ 63 → P (y,k')):Wt (Q0I k x w) P:=by
 have bt:=Qjx x
 have s1:((" ":Str)).length = 1:=by decide
 have cn:1 ≤ (Txt.split x (" ":Str)).length:=Q8X (Q9E x)
 unfold Q0I
 rw [Qjf (by omega),Q1]
 have tl_:=Q6X (Txt.split x (" ":Str))
 refine Xn (Yf hk (by unfold W0; omega) (by unfold W0; omega) fun a k' a0 a1 hk'=>?_)
 unfold W0 at a1
 dsimp only
 have fin:∀ ys:List Str,tot ys ≤ 2 * x.length + 703 → Wt ((Q1V (" ":Str) ys).bind fun v25=>some (v25,k')) P:=fun ys hy=>Xn (Q2P s1 (by omega) fun z hz=>Y5 (h z k' (by omega) hk'))
 rcases hw with rfl | rfl | rfl | rfl
 ·simp only [show decide ((0:Int) = 0) = true from rfl,show decide ((0:Int) = 1) = false from rfl,show decide ((0:Int) = 2) = false from rfl,show decide ((0:Int) = 3) = false from rfl,if_true,Qx,if_false,Q1]
  have:=Q99 (ys:=Txt.split x (" ":Str)) a0
  refine Xn (Xn (Kc (by omega) (Y5 (fin _ ?_))))
  rw [V7]
  omega
 ·simp only [show decide ((1:Int) = 0) = false from rfl,show decide ((1:Int) = 1) = true from rfl,show decide ((1:Int) = 2) = false from rfl,show decide ((1:Int) = 3) = false from rfl,if_true,Qx,if_false,Q1]
  have q1:=Q9i (Txt.split x (" ":Str)) (some a) (some (a + 1))
  have q2:tot (Yn (Txt.split x (" ":Str)) none (some a)) + tot (Yn (Txt.split x (" ":Str)) (some a) none) = tot (Txt.split x (" ":Str)):=by
   rw [Q1y a0,Q0l a0]
   exact Q3w _ _
  refine Xn (Xn (Xn (Kc (by omega) (Y4 (Kc (by rw [V7]; omega) (Y5 (fin _ ?_)))))))
  rw [V7,V7]
  omega
 ·simp only [show decide ((2:Int) = 0) = false from rfl,show decide ((2:Int) = 1) = false from rfl,show decide ((2:Int) = 2) = true from rfl,show decide ((2:Int) = 3) = false from rfl,if_true,Qx,if_false,Q1]
  have q:=Qdt (ys:=Txt.split x (" ":Str)) a0 (by omega)
  have r:=QcB (Yn (Txt.split x (" ":Str)) (some a) (some (a + 2)))
  refine Xn (Xn (Xn (Kc (by omega) (Y4 (Kc (by rw [V7]; omega) (Y5 (fin _ ?_)))))))
  rw [V7,V7]
  omega
 ·simp only [show decide ((3:Int) = 0) = false from rfl,show decide ((3:Int) = 1) = false from rfl,show decide ((3:Int) = 2) = false from rfl,show decide ((3:Int) = 3) = true from rfl,if_true,Qx,if_false,Q1]
  have q:=Q99 (ys:=Txt.split x (" ":Str)) a0
  refine Xn (Xn (Xn (Xn (Qhm hk' fun y k2 hy hk2=>?_))))
  have o:=Q9z y
  dsimp only
  refine Y4 (Kc (by omega) (Y4 (Kc (by rw [V7]; omega) (Y5 ?_))))
  dsimp only
  refine Xn (Q2P s1 (by rw [V7,V7]; omega) fun z hz=>Y5 (h z k2 ?_ hk2))
  rw [V7,V7] at hz
  omega
theorem QkF {i:Int} (h0:0 ≤ i) (h1:i ≤ 100):QdF i = some (nT i) ∧ (nT i).length ≤ 41:=by
 refine ⟨?_,Qcd (by unfold NB; omega) (by unfold NB; omega)⟩
 unfold QdF
 exact if_pos (Nat.lt_of_le_of_lt (Nat.log2_le_self _) (by omega))
theorem Qcr {k:Dk} (hk:k.cs.length ≤ 63) {x:Str} (l:x.length ≤ 40000) {P:Str × Dk → Prop} (h:∀ y k',y.length ≤ 3 * x.length + 2000 → k'.cs.length ≤ 63 → P (y,k')):Wt (Q3K k x) P:=by
 have nt:=Qir x
 have s1:(("\n":Str)).length = 1:=by decide
 have s2:((" ":Str)).length = 1:=by decide
 have sb:(1000000:Nat) ≤ sizeLine:=by decide
 have cn:1 ≤ (Txt.split x ("\n":Str)).length:=Q8X (Q98 x)
 have tl_:=Q6X (Txt.split x ("\n":Str))
 unfold Q3K
 refine Xn (Yf hk (by omega) (by omega) fun way k1 w0 w1 hk1=>?_)
 rw [QiO (by omega),Q1]
 refine Xn (Xn (Yf hk1 (by unfold W0; omega) (by unfold W0; omega) fun a k2 a0 a1 hk2=>?_))
 unfold W0 at a1
 dsimp only
 rw [show Q5z x = some (x.length:Int) from if_pos (by omega),Q1]
 refine Y4 (Y4 (Yf hk2 (by omega) (by omega) fun b k3 b0 b1 hk3=>?_))
 dsimp only
 have o:=Q99 (ys:=Txt.split x ("\n":Str)) a0
 refine Ks (fun c=>?_) fun c=>Ks (fun c2=>?_) fun c2=>Ks (fun _=>?_) fun _=>Ks (fun _=>?_) fun _=>Ks (fun _=>?_) fun _=>Ks (fun _=>?_) fun _=>?_
 ·rw [decide_eq_true_eq] at c
  refine Xn (Xn (Xn (Xn (Xn (Q6J (by omega) ?_)))))
  refine Y4 (Xn (Xn (QcP hk3 fun y k4 hy hk4=>Y4 (QcP hk4 fun y2 k5 hy2 hk5=>?_))))
  refine Y4 (Q2W w0 (by simp only [Qh,Qw]; omega) fun z hz=>?_)
  have lz:z.length ≤ 1:=by
   simp only [Qg,Qu,or_false] at hz
   rcases hz with rfl | rfl | rfl
   ·omega
   ·omega
   ·decide
  have lc:=Q56 x none (some b)
  refine Y4 (Zy (by dsimp only; omega) (Y4 (Q6J (by omega) ?_)))
  have lc2:=Q56 x (some (b + boI (decide (0 < way)))) none
  refine Y4 (Zy (by dsimp only; rw [W6]; omega) (Y5 (h _ _ ?_ hk5)))
  dsimp only
  rw [W6,W6]
  omega
 ·rw [decide_eq_true_eq] at c2
  rw [decide_eq_false_iff_not] at c
  refine Xn (Xn (Xn (Xn (Xn (Xn (Q2W a0 (by omega) fun ln hln=>?_))))))
  refine Y4 (Q2W (by omega) (by simp only [Qh,Qw]; omega) fun w hw=>?_)
  have ll:=Qa2 hln
  refine Y4 (QgV (x:=ln) (w:=w) hk3 (by omega) (by simp only [Qg,Qu,or_false] at hw; omega) fun y k4 hy hk4=>?_)
  have o1:=Q9z y
  refine Y4 (Kc (by dsimp only; omega) (Y4 (Kc (by dsimp only; rw [V7]; omega) (Y4 (Q2P s1 ?_ fun z hz=>Y5 (h z k4 ?_ hk4))))))
  ·dsimp only
   rw [V7,V7]
   omega
  ·dsimp only at hz
   rw [V7,V7] at hz
   omega
 ·refine Xn (Xn (Xn (Xn (Xn (Xn (Xn (Yf hk3 (by omega) (by omega) fun i k4 i0 i1 hk4=>?_)))))))
  obtain ⟨e1,q1⟩:=QkF (i:=2 + i) (by omega) (by omega)
  dsimp only
  rw [e1]
  refine Y5 (Y4 (Zy (by dsimp only; omega) (Y4 (Xn (Yf hk4 (by omega) (by omega) fun j k5 j0 j1 hk5=>?_)))))
  obtain ⟨e2,q2⟩:=QkF (i:=2 + j) (by omega) (by omega)
  dsimp only
  rw [e2]
  have o1:=Q9z ((nT (2 + i) ++ (" ":Str)) ++ nT (2 + j))
  rw [W6,W6] at o1
  have o2:=Q9i (Txt.split x ("\n":Str)) (some 1) none
  refine Y5 (Y4 (Zy (by dsimp only; rw [W6]; omega) (Y4 (Kc (by dsimp only; omega) (Y4 (Q2P s1 ?_ fun z hz=>Y5 (h z k5 ?_ hk5)))))))
  ·dsimp only
   rw [V7]
   omega
  ·dsimp only at hz
   rw [V7] at hz
   omega
 ·refine Xn (Xn (Kc (by omega) (Y4 (Q2P s1 ?_ fun z hz=>Y5 (h z k3 ?_ hk3)))))
  ·rw [V7]
   omega
  ·rw [V7] at hz
   omega
 ·have q1:=Q9i (Txt.split x ("\n":Str)) (some a) (some (a + 1))
  have q2:tot (Yn (Txt.split x ("\n":Str)) none (some a)) + tot (Yn (Txt.split x ("\n":Str)) (some a) none) = tot (Txt.split x ("\n":Str)):=by
   rw [Q1y a0,Q0l a0]
   exact Q3w _ _
  refine Xn (Xn (Xn (Kc (by omega) (Y4 (Kc (by rw [V7]; omega) (Y4 (Q2P s1 ?_ fun z hz=>Y5 (h z k3 ?_ hk3))))))))
  ·dsimp only
   rw [V7,V7]
   omega
  ·dsimp only at hz
   rw [V7,V7] at hz
   omega
 ·have q:=Qdt (ys:=Txt.split x ("\n":Str)) a0 (by omega)
  have r:=QcB (Yn (Txt.split x ("\n":Str)) (some a) (some (a + 2)))
  refine Xn (Xn (Xn (Kc (by omega) (Y4 (Kc (by rw [V7]; omega) (Y4 (Q2P s1 ?_ fun z hz=>Y5 (h z k3 ?_ hk3))))))))
  ·dsimp only
   rw [V7,V7]
   omega
  ·dsimp only at hz
   rw [V7,V7] at hz
   omega
 ·have s3:(("  ":Str)).length = 2:=by decide
  have r1:Q6B ("\n":Str) (" ":Str) x = some (Txt.replace x ("\n":Str) (" ":Str)):=if_pos (by rw [s2]; omega)
  have r2:Q6B (" ":Str) ("  ":Str) x = some (Txt.replace x (" ":Str) ("  ":Str)):=if_pos (by rw [s3]; omega)
  have b1:=TK.replace_len x ("\n":Str) (" ":Str)
  have b2:=TK.replace_len x (" ":Str) ("  ":Str)
  rw [s2] at b1
  rw [s3] at b2
  refine Xn (Xn (Zy (by omega) (Y4 (Xn (Zy (by omega) (Y4 (Xn (Zy (by omega) (Y4 (Xn (Zy (by omega) ?_)))))))))))
  rw [r1]
  refine Y4 (Y5 (Yy ?_))
  rw [r2,Q1]
  refine Xn (Xn (Y4 (Q4z (by simp) (Y4 (QjE hk3 (by simp) (by simp) fun y hy k4 hk4=>Y5 (h y k4 ?_ hk4))))))
  rcases Qc.mp hy with q | q
  ·simp only [Qg,Qu,or_false] at q
   rcases q with rfl | rfl | rfl | rfl | rfl
   ·rw [W6]; omega
   ·rw [W6]; omega
   ·rw [W6]; omega
   ·rw [W6]; omega
   ·omega
  ·have:=Qr.mp q
   rw [this]
   omega
end K05
namespace K05
open PySem PySem.Spec PyProof.Rows L2 Z
variable {ι τ σ ρ:Type}
open TL
theorem QiU {A B:Str} {n:Int} (hn:60 ≤ n) (l:((A ++ Txt.mul ("1":Str) n) ++ B).length ≤ 100000):Vm (.str ((A ++ Txt.mul ("1":Str) n) ++ B)) = some (.inl ("NoText":Str)):=by
 rcases Q6d (x:=(A ++ Txt.mul ("1":Str) n) ++ B) l with ⟨st,_,_,_,_,r⟩ | ⟨e,_,_⟩
 ·exfalso
  obtain ⟨a,b,w1,w2,w3,w4,ew,ok,_⟩:=r
  rw [← ew] at ok
  have eW:tl (Txt.mul ("1":Str) n) = Qn n.toNat 49:=by
   rw [Qfc]
   show (Qn n.toNat [49]).flatten = _
   rw [List.flatten_replicate_singleton]
  have ex:[] ++ tl ((A ++ Txt.mul ("1":Str) n) ++ B) = (tl A ++ Qn n.toNat 49) ++ tl B:=by
   rw [List.nil_append,tl_append,tl_append,eW]
  have no:∀ s:Nat,s ≠ 49 → s ∉ Qn n.toNat 49:=fun s hs q=>hs (List.eq_of_mem_replicate q)
  obtain ⟨y,hy,P',Q',ey⟩:=Q9y 10 _ [] _ _ _ ex (no 10 (by decide))
  rw [← Qau] at hy
  obtain ⟨ln,hl,rfl⟩:=Qy.mp hy
  obtain ⟨z,hz,P2,Q2,ez⟩:=Q9y 32 (tl ln) [] P' _ Q' (by rw [List.nil_append]; exact ey) (no 32 (by decide))
  rw [← QaQ] at hz
  obtain ⟨w,hw,rfl⟩:=Qy.mp hz
  have lw:60 ≤ w.length:=by
   rw [len_tl,ez,Qb,Qb,Ju]
   omega
  have okw:okB w = true:=Qe.mp (Qe.mp ok (Txt.split ln (" ":Str)) (Qy.mpr ⟨ln,hl,rfl⟩)) w hw
  unfold okB at okw
  simp only [Q5,decide_eq_true_eq] at okw
  have:=(Q6S w).2
  have:=okw.1.1.2
  omega
 ·exact e
theorem Qiv {k:Dk} (hk:k.cs.length ≤ 63) {P:Str × Dk → Prop} (h:∀ x k',Vm (.str x) = some (.inl ("NoText":Str)) → k'.cs.length ≤ 63 → P (x,k')):Wt (Q1i k) P:=by
 have r1:Q7s [(0:Int)] 111 = some (Qn 111 0):=by
  obtain ⟨_,e1,e2⟩:Wt (Q7s [(0:Int)] 111) fun z=>z = Qn 111 0:=Qbb (by decide) (by decide) rfl
  rw [e1,e2]
 have nb:NBd (Qn 111 (0:Int)):=fun c hc=>by
  rw [List.eq_of_mem_replicate hc]
  unfold NB
  omega
 have w:WF ((2:Int),(3:Int),Qn 111 (0:Int)):=⟨by decide,by decide,by decide,by decide,by simp⟩
 have tx:=Qb9 w nb
 have tl8:=Q9Q w nb
 generalize stT ((2:Int),(3:Int),Qn 111 (0:Int)) = T at *
 have o1:(("1":Str)).length = 1:=by decide
 unfold Q1i
 rw [r1,Q1,tx,Qi,Q1]
 (try dsimp only)
 refine Xn (Y4 (Xn (Yf hk (by omega) (by omega) fun d k1 d0 d1 hk1=>?_)))
 (try dsimp only)
 rw [QbL (by omega) (by omega) (by rw [o1]; omega)]
 refine Y4 (Y5 ?_)
 (try dsimp only)
 refine Xn (Yf hk1 (by omega) (by omega) fun a k2 a0 a1 hk2=>Yy ?_)
 (try dsimp only)
 have lm:=Q2I ("1":Str) (4290 + d)
 rw [o1] at lm
 have c1:=Q56 T none (some (4 + 2 * a))
 have c2:=Q56 T (some (4 + 2 * a + 1)) none
 refine Xn (Xn (Xn (Xn (Xn (Xn (Q6J (by omega) (Y4 (Qj2 hk2 (by simp) (by simp) fun sg hsg k3 hk3=>?_))))))))
 have ls:sg.length ≤ 1:=by
  simp only [Qg,Qu,or_false] at hsg
  rcases hsg with rfl | rfl <;> decide
 refine Y4 (Zy (by dsimp only; omega) (Y4 (Zy (by dsimp only; rw [W6]; omega) (Y4 (Q6J (by omega) ?_)))))
 refine Y4 (Zy (by dsimp only; rw [W6,W6]; omega) (Y5 (h _ _ ?_ hk3)))
 dsimp only
 exact QiU (by omega) (by rw [W6,W6,W6]; omega)
theorem Qja (ns:List Int):QcI ns = some true:=by
 have hk:(Qb5 ns).cs.length ≤ 63:=by
  show ((ns.take 63).reverse).length ≤ 63
  rw [Xc,Jr]
  omega
 suffices z:Wt (QcI ns) (fun r=>r = true) by
  obtain ⟨r,e,rfl⟩:=z
  exact e
 unfold QcI
 refine Xn (Xn (Qiv hk fun x k1 nr hk1=>?_))
 dsimp only
 rw [Qce nr]
 refine Y5 ?_
 dsimp only
 rw [if_neg (by decide)]
 refine Xn (Wt.mon (P:=fun w:Dk ⊕ Bool=>∃ s,w = .inl s) (Q9V (fun s:Dk=>s.cs.length ≤ 63) hk1 (fun x6 _ s hs=>?_) (fun s _=>⟨s,rfl⟩)) fun w hw=>?_)
 ·refine Xn (Q43 (by rw [Qco,Wj]; decide) (Q5o (fun _=>True) (fun _ (s:Dk)=>s.cs.length ≤ 63) hs (fun x xs s hs=>Y4 (Yf hs (by omega) (by omega) fun r k' _ _ hk'=>⟨trivial,hk'⟩)) fun ys k2 _ _ hk2=>?_))
  dsimp only
  refine Xn (Qj6 hk2 fun st k3 w b hk3=>?_)
  have b:NBd st.2.2:=b
  dsimp only
  rw [Qb9 w b,Q1]
  have tl8:=Q9Q w b
  refine Xn (Wt.mon (P:=fun w:Dk ⊕ Bool=>∃ s,w = .inl s ∧ s.cs.length ≤ 63) (Q9V (fun s:Dk=>s.cs.length ≤ 63) hk3 (fun x19 _ s hs=>?_) (fun s hs=>⟨s,rfl,hs⟩)) fun w hw=>?_)
  ·refine Xn (Qcr hs (by omega) fun y k4 hy hk4=>?_)
   dsimp only
   refine Xn (Wt.mon (P:=fun q:Dk × Str=>q.1.cs.length ≤ 63 ∧ q.2.length ≤ 1000000) (Ks (fun _=>Xn (Qcr hk4 (by omega) fun z k5 hz hk5=>Y5 ⟨hk5,by dsimp only; omega⟩)) fun _=>Y5 ⟨hk4,by dsimp only; omega⟩) fun q hq=>?_)
   rw [Qay hq.2,Q1,if_neg (by decide),QdR w b]
   show Wt ((((okQ (some (Sum.inr st))).map _)).bind _) _
   rw [show okQ (some (Sum.inr st):Option (Str ⊕ St)) = some st from rfl,Qi,Q1,decide_eq_true rfl,if_neg (by decide)]
   exact Y5 ⟨_,rfl,hq.1⟩
  ·obtain ⟨s',rfl,hs'⟩:=hw
   exact Y5 ⟨_,rfl,hs'⟩
 ·obtain ⟨s,rfl⟩:=hw
  rw [Sum.elim_inl]
  refine Yy ?_
  have r1:Q7s [(0:Int)] 111 = some (Qn 111 0):=by
   obtain ⟨_,e1,e2⟩:Wt (Q7s [(0:Int)] 111) fun z=>z = Qn 111 0:=Qbb (by decide) (by decide) rfl
   rw [e1,e2]
  rw [r1,Q1]
  refine Xn (Xn (Xn (Y4 (Q4z (by simp) (Y4 (Q43 (by simp) (Qcz (fun _=>false) (fun x=>x) (fun d hd=>?_) (fun d _ q=>by cases q) ?_)))))))
  ·have:okQ (Q07 d) = some true:=by
    cases d with
    | str z =>
     refine Qay ?_
     rcases Qc.mp hd with q | q
     ·simp only [Qg,Qu,or_false,Q3.injEq] at q
      rcases q with rfl | rfl | rfl | rfl | rfl | rfl | rfl | rfl | q
      all_goals first | decide | (exfalso; revert q; simp [eTu,eP1,eLi,eDi])
     ·simp only [Qg,Qu,or_false] at q
      exfalso
      rcases q with q | q | q <;> cases q
    | _=>exact Qbz _ rfl
   rw [this]
   rfl
  ·rw [List.filter_eq_nil_iff.mpr (fun _ _=>by decide)]
   exact Y4 (Y5 (Y5 rfl))
end K05
namespace K05
open PySem PySem.Spec PyProof.Rows L2 Z
variable {ι τ σ ρ:Type}
theorem law_true:∀ ns:List Int,ns.length ≤ 63 → ∃ outs,φ_law [.scr ns] = some (.bool true,outs):=fun ns _=>⟨_,Qkz ns true (Qja ns)⟩
end K05
namespace K05
open PySem PySem.Spec PyProof.Rows L2 Z
theorem QjS {l:PySem.W.OpenLaw} {w:World} {K:PySem.W.Frag} {h:Heap} {mg:Str → Option Value} {fa:Addr} (X:K.In h) (G:h.Ns mainGlobals mg) (hfa:mg "law" = some (.ref fa))
  {f33:Addr} {od33 an33:Option Addr} {sl33:Array (Option Value)} {oc33 kV33 dc33 pm33 cd33 ct33:Value}
  {u0:Value}
  {u1:Value}
  {u2:Value}
  {u3:Value}
  {u4:Value}
  {u5:Value}
  {u6:Value}
  {u7:Value}
  {u8:Value}
  (F0:W8 K "is_number" "is_number" Q3v)
  (F1:W8 K "is_shape" "is_shape" Q4W)
  (F2:W8 K "many_cells" "many_cells" Q2x)
  (F3:W8 K "is_store" "is_store" Q2C)
  (F4:W8 K "map_first" "map_first" Q3t)
  (F5:W8 K "block_first" "block_first" Q28)
  (F6:W8 K "log_first" "log_first" Q38)
  (F7:W8 K "lines_of" "lines_of" Q4y)
  (F8:W8 K "number_in" "number_in" Q1S)
  (F9:W8 K "read_store" "read_store" Za)
  (F10:W8 K "_law_deck" "_law_deck" Q3I)
  (F11:W8 K "_law_draw" "_law_draw" Q3u)
  (F12:W8 K "_law_pick" "_law_pick" Q3N)
  (F13:W8 K "_law_shape" "_law_shape" Q2B)
  (F14:W8 K "_law_needs" "_law_needs" Q2J)
  (F15:W8 K "_law_left" "_law_left" Q1P)
  (F16:W8 K "_law_enter" "_law_enter" Q1h)
  (F17:W8 K "_law_model" "_law_model" Q16)
  (F18:W8 K "_law_given" "_law_given" Q18)
  (F19:W8 K "_law_laid" "_law_laid" Q3p)
  (F20:W8 K "_law_sound" "_law_sound" Q2H)
  (F21:W8 K "_law_number" "_law_number" Q2b)
  (F22:W8 K "_law_any_store" "_law_any_store" Zh)
  (F23:W8 K "_law_text" "_law_text" Q22)
  (F24:W8 K "_law_word" "_law_word" Q3l)
  (F25:W8 K "_law_sign" "_law_sign" Q3r)
  (F26:W8 K "_law_bent_line" "_law_bent_line" Q0y)
  (F27:W8 K "_law_bent" "_law_bent" Q3y)
  (F28:W8 K "_law_far_text" "_law_far_text" Q0T)
  (F29:W8 K "_law_word_read" "_law_word_read" Z7)
  (F30:W8 K "_law_read" "_law_read" Q09)
  (F31:W8 K "_law_is_refused" "_law_is_refused" Q0k)
  (F32:W8 K "_law_is_so" "_law_is_so" Q2w)
  (a33:PySem.W.nsIn K mainGlobals "law" = some (some (.ref f33))) (l33:K.lookup f33 = some ⟨oc33,od33,.func (PySem.W.fnOf "law" "law" (defArgs Q3H) (defBody Q3H) (defScope Q3H) .none kV33 dc33 pm33 an33 cd33 ct33),sl33⟩) (c33:PySem.W.codeIn K cd33 "law" = true) (k33:PySem.W.keepIn K (.ref f33) = true)
  (b0:PySem.W.nsIn K mainGlobals "BLOCK_CELLS" = some (some u0)) (r0:Q8i K u0 (.int 4))
  (b1:PySem.W.nsIn K mainGlobals "FIGURES" = some (some u1)) (r1:Q8i K u1 (.str "0123456789"))
  (b2:PySem.W.nsIn K mainGlobals "HEAD_CELLS" = some (some u2)) (r2:Q8i K u2 (.int 7))
  (b3:PySem.W.nsIn K mainGlobals "LEAST_BLOCKS" = some (some u3)) (r3:Q8i K u3 (.int 3))
  (b4:PySem.W.nsIn K mainGlobals "LEAST_HEADS" = some (some u4)) (r4:Q8i K u4 (.int 2))
  (b5:PySem.W.nsIn K mainGlobals "LOG_CELLS" = some (some u5)) (r5:Q8i K u5 (.int 82))
  (b6:PySem.W.nsIn K mainGlobals "MOST_BLOCKS" = some (some u6)) (r6:Q8i K u6 (.int 12))
  (b7:PySem.W.nsIn K mainGlobals "MOST_FIGURES" = some (some u7)) (r7:Q8i K u7 (.int 40))
  (b8:PySem.W.nsIn K mainGlobals "MOST_HEADS" = some (some u8)) (r8:Q8i K u8 (.int 8))
  (z0:PySem.W.nsIn K mainGlobals "ValueError" = some none)
  (z1:PySem.W.nsIn K mainGlobals "all" = some none)
  (z2:PySem.W.nsIn K mainGlobals "bool" = some none)
  (z3:PySem.W.nsIn K mainGlobals "enumerate" = some none)
  (z4:PySem.W.nsIn K mainGlobals "int" = some none)
  (z5:PySem.W.nsIn K mainGlobals "isinstance" = some none)
  (z6:PySem.W.nsIn K mainGlobals "len" = some none)
  (z7:PySem.W.nsIn K mainGlobals "list" = some none)
  (z8:PySem.W.nsIn K mainGlobals "range" = some none)
  (z9:PySem.W.nsIn K mainGlobals "repr" = some none)
  (z10:PySem.W.nsIn K mainGlobals "reversed" = some none)
  (z11:PySem.W.nsIn K mainGlobals "sorted" = some none)
  (z12:PySem.W.nsIn K mainGlobals "str" = some none)
  (z13:PySem.W.nsIn K mainGlobals "sum" = some none)
  (z14:PySem.W.nsIn K mainGlobals "tuple" = some none)
  (z15:PySem.W.nsIn K mainGlobals "zip" = some none)
  (ex:QjY K exN = true)
  : ∃ fd:FuncData,(∀ (s:Shared) (v:Value),BindsTo s fd ⟨[v],[]⟩ [("_law_script",v)]) ∧ ∀ base:Heap,K.In base → base.Ns mainGlobals mg → FnG l.prog w K mg base CX0 8 fa fd ["_law_script"] (spF K 1 .n φ_law):=by
 cases hfa.symm.trans (PySem.W.mg_of X G a33)
 have T:Txt K mg:={ c_BLOCK_CELLS:=⟨_,_,PySem.W.mg_of X G b0,gcs r0⟩,c_FIGURES:=⟨_,_,PySem.W.mg_of X G b1,gcs r1⟩,c_HEAD_CELLS:=⟨_,_,PySem.W.mg_of X G b2,gcs r2⟩,c_LEAST_BLOCKS:=⟨_,_,PySem.W.mg_of X G b3,gcs r3⟩,c_LEAST_HEADS:=⟨_,_,PySem.W.mg_of X G b4,gcs r4⟩,c_LOG_CELLS:=⟨_,_,PySem.W.mg_of X G b5,gcs r5⟩,c_MOST_BLOCKS:=⟨_,_,PySem.W.mg_of X G b6,gcs r6⟩,c_MOST_FIGURES:=⟨_,_,PySem.W.mg_of X G b7,gcs r7⟩,c_MOST_HEADS:=⟨_,_,PySem.W.mg_of X G b8,gcs r8⟩,m_ValueError:=PySem.W.mg_none_of X G z0,m_all:=PySem.W.mg_none_of X G z1,m_bool:=PySem.W.mg_none_of X G z2,m_enumerate:=PySem.W.mg_none_of X G z3,m_int:=PySem.W.mg_none_of X G z4,m_isinstance:=PySem.W.mg_none_of X G z5,m_len:=PySem.W.mg_none_of X G z6,m_list:=PySem.W.mg_none_of X G z7,m_range:=PySem.W.mg_none_of X G z8,m_repr:=PySem.W.mg_none_of X G z9,m_reversed:=PySem.W.mg_none_of X G z10,m_sorted:=PySem.W.mg_none_of X G z11,m_str:=PySem.W.mg_none_of X G z12,m_sum:=PySem.W.mg_none_of X G z13,m_tuple:=PySem.W.mg_none_of X G z14,m_zip:=PySem.W.mg_none_of X G z15,ex:=⟨ex,fun c C e=>PySem.W.mg_of X G e⟩ }
 refine ⟨PySem.W.fnOf "law" "law" (defArgs Q3H) (defBody Q3H) (defScope Q3H) .none kV33 dc33 pm33 an33 cd33 ct33,fun s v=>.of_eq rfl,fun base _ _=>?_⟩
 have h_is_number:=V8 F0 X G (Q9X (P:=l.prog) (w:=w) (base:=base) T )
 have h_is_shape:=V8 F1 X G (Qbw (P:=l.prog) (w:=w) (base:=base) T h_is_number)
 have h_many_cells:=V8 F2 X G (Q87 (P:=l.prog) (w:=w) (base:=base) T )
 have h_is_store:=V8 F3 X G (Qaz (P:=l.prog) (w:=w) (base:=base) T h_is_number h_is_shape h_many_cells)
 have h_map_first:=V8 F4 X G (Q9P (P:=l.prog) (w:=w) (base:=base) T )
 have h_block_first:=V8 F5 X G (Q7N (P:=l.prog) (w:=w) (base:=base) T h_map_first)
 have h_log_first:=V8 F6 X G (Q9d (P:=l.prog) (w:=w) (base:=base) T h_block_first)
 have h_lines_of:=V8 F7 X G (Qbk (P:=l.prog) (w:=w) (base:=base) T h_block_first h_log_first h_many_cells h_map_first)
 have h_number_in:=V8 F8 X G (Q9g (P:=l.prog) (w:=w) (base:=base) T )
 have h_read_store:=V8 F9 X G (Q8n (P:=l.prog) (w:=w) (base:=base) T h_is_shape h_is_store h_lines_of h_number_in)
 have h__law_deck:=V8 F10 X G (Q9U (P:=l.prog) (w:=w) (base:=base) T )
 have h__law_draw:=V8 F11 X G (Q94 (P:=l.prog) (w:=w) (base:=base) T )
 have h__law_pick:=V8 F12 X G (Q9v (P:=l.prog) (w:=w) (base:=base) T h__law_draw)
 have h__law_shape:=V8 F13 X G (Q8e (P:=l.prog) (w:=w) (base:=base) T h__law_draw)
 have h__law_needs:=V8 F14 X G (Q8l (P:=l.prog) (w:=w) (base:=base) T )
 have h__law_left:=V8 F15 X G (Q9t (P:=l.prog) (w:=w) (base:=base) T h__law_needs)
 have h__law_enter:=V8 F16 X G (Q8s (P:=l.prog) (w:=w) (base:=base) T h__law_left h__law_needs)
 have h__law_model:=V8 F17 X G (Q8h (P:=l.prog) (w:=w) (base:=base) T h__law_draw h__law_enter h__law_left h__law_pick)
 have h__law_given:=V8 F18 X G (Q8o (P:=l.prog) (w:=w) (base:=base) T h__law_draw h__law_needs)
 have h__law_laid:=V8 F19 X G (Qa7 (P:=l.prog) (w:=w) (base:=base) T )
 have h__law_sound:=V8 F20 X G (Q8q (P:=l.prog) (w:=w) (base:=base) T h__law_given h__law_laid h__law_model h__law_shape)
 have h__law_number:=V8 F21 X G (Q7l (P:=l.prog) (w:=w) (base:=base) T h__law_draw)
 have h__law_any_store:=V8 F22 X G (Q5q (P:=l.prog) (w:=w) (base:=base) T h__law_draw h__law_number h__law_sound)
 have h__law_text:=V8 F23 X G (Qa6 (P:=l.prog) (w:=w) (base:=base) T )
 have h__law_word:=V8 F24 X G (Q9c (P:=l.prog) (w:=w) (base:=base) T h__law_draw h__law_pick)
 have h__law_sign:=V8 F25 X G (Q9f (P:=l.prog) (w:=w) (base:=base) T h__law_pick)
 have h__law_bent_line:=V8 F26 X G (Q5L (P:=l.prog) (w:=w) (base:=base) T h__law_draw h__law_word)
 have h__law_bent:=V8 F27 X G (Q9p (P:=l.prog) (w:=w) (base:=base) T h__law_bent_line h__law_draw h__law_pick h__law_sign)
 have h__law_far_text:=V8 F28 X G (Q64 (P:=l.prog) (w:=w) (base:=base) T h__law_draw h__law_pick h__law_text)
 have h__law_word_read:=V8 F29 X G (Q55 (P:=l.prog) (w:=w) (base:=base) T )
 have h__law_read:=V8 F30 X G (Q9b (P:=l.prog) (w:=w) (base:=base) T h__law_word_read)
 have h__law_is_refused:=V8 F31 X G (Q4D (P:=l.prog) (w:=w) (base:=base) T h_read_store)
 have h__law_is_so:=V8 F32 X G (Q89 (P:=l.prog) (w:=w) (base:=base) T h__law_is_refused h__law_read h_read_store)
 exact Qju T h__law_any_store h__law_bent h__law_deck h__law_draw h__law_far_text h__law_is_refused h__law_is_so h__law_text h_read_store (fun_mk (st:=Q3H) l33 c33 k33)
theorem all_of {l:PySem.W.OpenLaw} {w:World} {K:PySem.W.Frag} {h:Heap} {mg:Str → Option Value} {fa:Addr} (X:K.In h) (G:h.Ns mainGlobals mg) (hla:mg "law" = some (.ref fa)) (c:Q10 Qjo QjJ Qk1 Qgi Qiu w K)
  : ∃ fd:FuncData,(∀ (s:Shared) (v:Value),BindsTo s fd ⟨[v],[]⟩ [("_law_script",v)]) ∧ ∀ base:Heap,K.In base → base.Ns mainGlobals mg → FnG l.prog w K mg base CX0 8 fa fd ["_law_script"] (spF K 1 .n φ_law):=by
 obtain ⟨_,_,_,_,_,_,_,_,_,l,k,kp⟩:=c.law 33
 obtain ⟨_,b0,r0⟩:=c.con 0
 obtain ⟨_,b1,r1⟩:=c.con 1
 obtain ⟨_,b2,r2⟩:=c.con 2
 obtain ⟨_,b3,r3⟩:=c.con 3
 obtain ⟨_,b4,r4⟩:=c.con 4
 obtain ⟨_,b5,r5⟩:=c.con 5
 obtain ⟨_,b6,r6⟩:=c.con 6
 obtain ⟨_,b7,r7⟩:=c.con 7
 obtain ⟨_,b8,r8⟩:=c.con 8
 have e0:Qgi K = true:=c.more
 exact QjS X G hla (c.fd 0 0) (c.fd 1 1) (c.fd 2 2) (c.fd 3 3) (c.fd 4 4) (c.fd 5 5) (c.fd 6 6) (c.fd 7 7) (c.fd 8 8) (c.fd 9 9) (c.fd 10 10) (c.fd 11 11) (c.fd 12 12) (c.fd 13 13) (c.fd 14 14) (c.fd 15 15) (c.fd 16 16) (c.fd 17 17) (c.fd 18 18) (c.fd 19 19) (c.fd 20 20) (c.fd 21 21) (c.fd 22 22) (c.fd 23 23) (c.fd 24 24) (c.fd 25 25) (c.fd 26 26) (c.fd 27 27) (c.fd 28 28) (c.fd 29 29) (c.fd 30 30) (c.fd 31 31) (c.fd 32 32) (c.gl 33) l k kp b0 r0 b1 r1 b2 r2 b3 r3 b4 r4 b5 r5 b6 r6 b7 r7 b8 r8 (c.fr 34) (c.fr 35) (c.fr 36) (c.fr 37) (c.fr 38) (c.fr 39) (c.fr 40) (c.fr 41) (c.fr 42) (c.fr 43) (c.fr 44) (c.fr 45) (c.fr 46) (c.fr 47) (c.fr 48) (c.fr 49) e0
end K05
open PySem PySem.W PySem.Calls PyProof.Rows
set_option maxHeartbeats 0 in
theorem PySem.Challenge.cw_soundstore_k05_texts_of_no_store_holds : PySem.Challenge.rw_soundstore_k05_texts_of_no_store.Holds := by
 w_on; refine K05.hd_o fun said => ?_
 refine HandSHeadRun.head_any (r := K05.hdR) (q := K05.hdQ) (H := K05.hdH) (ob := K05.hdO) (M := 12000) (loose := K05.hdNm) (d := HandSHeadRun.topDef K05.hdR.prog 61) (kwd := []) K05.hdO_eq
  K05.hd_e K05.hd_f K05.run_w K05.hd_d K05.hd_p K05.hd_k K05.hd_1 said K05.hd_3 K05.hd_4 ?hw ?hc
 case hw => w_witness2
 case hc =>
  refine Z.zwalkE (l := PySem.Challenge.rw_soundstore_k05_texts_of_no_store) (n := 63) (k := 8) (x := "_law_script") (φ := K05.φ_law) rfl (by decide) (by kernel_rfl) ⟨rfl, by decide, by decide⟩ ?F K05.law_true
  intro w mg fa h Y G hmg0
  obtain ⟨K, KX, c⟩ := Y
  have hmg : mg ("law" : PySem.Str) = some (.ref fa) := by
   have e : (HandSHeadRun.topDef K05.hdR.prog 61).name = ("law" : PySem.Str) := by kernel_rfl
   rw [← e]
   exact hmg0
  exact ⟨K, KX, K05.all_of KX G hmg c⟩

