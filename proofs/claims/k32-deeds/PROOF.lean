import PyProof.Rows.All
import Wide.All
import OpenK.AllK
import Wide.FinOn
import KE.KStateDown
import HandS.Words
import HandS.Head2
import HandS.HeadHook3
import PySem.Challenge.RW_soundstore_k32_what_is_a_deed
import HandS.ForMost
import HandS.Iter
import HandS.TupAny
import HandS.TupMul
import HandS.TupLe
import HandS.Deep
import HandS.IsInst
import KE.LtData
import KE.SortData
import PyProof.RowDictHeap
import PyProof.ReprRoads
import KE.DataEq
import HandS.RaiseMore
import HandS.Strs
import HandS.Rev
import HandS.Conv
import HandS.Style
import HandS.More
import KE.GoesMore
import KE.GoesEnum
import HandS.SetFor
import KE.KDictPairs
import HandS.Flow
import HandS.NoneIn
import HandS.TupSets
import KE.KeyNested
import KE.KDictCopyH
import KE.KDictSum
import KE.KTupSum
import PyProof.TupleIter
import HandS.Zip
import PyProof.SumAny
import PyProof.ListOps
import PyProof.FactsAll.subtypes_4
import HandS.ExcValue
import PyProof.Rows.IntBool
import PyProof.NeKinds
import HandS.WordsExc
import HandS.ExcIs
import HandS.TryOnly
import HandS.WrittenGet
import HandS.HotCalls
set_option Elab.async false
set_option linter.all false
set_option maxRecDepth 1000000
set_option maxHeartbeats 4000000
open PySem.PyData renaming int → Q0, str → Q2, bool → Q4, bulkAll → Qb, depthAll → Qr, leavesShort → J7, showable → J9, eqv → Jb
open Option renaming bind_some → Q1, map_some → Q6, some → J2
open Bool renaming and_eq_true → Q3, false_eq_true → Ql, not_true → Qt
open Nat renaming le_refl → Q5, le_trans → Qj, le_succ_of_le → Qv, le_add_right → Qz, zero_le → J3
open List renaming mem_cons → Q7, length_cons → Q8, mem_cons_of_mem → Q9, not_mem_nil → Qa, length_map → Qc, mem_cons_self → Qd, getElem?_set_ne → Qe, mem_append_left → Qf, getElem?_eq_some_iff → Qg, getElem?_eq_getElem → Qh, all_eq_true → Qi, getElem?_set_self → Qk, mem_append_right → Qm, getElem?_map → Qn, mem_append → Qo, map_cons → Qp, length_nil → Qq, replicate → Qs, getElem?_append_left → Qu, getElem?_eq_none → Qw, append_nil → Qx, range → Qy, filterMap_cons → J1, length_append → J4, getD_eq_getElem?_getD → J5, length_set → J8, size_toArray → Ja, length_reverse → Jc
open Int renaming emod_lt_of_pos → J6
namespace Z
open PySem PySem.Spec PyProof.Rows L2
abbrev D:=PyData
mutual
def kRp (K:PySem.W.Frag):Nat → Value → Option (V × D)
 | 0,_=>none
 | n + 1,u=>match u with
  | .none=>some (.non,.none)
  | .bool b=>some (.bl b,.bool b)
  | .int i _=>some (.int i,.int i)
  | .str x _=>some (.str x,.str x)
  | .ref a=>match K.lookup a with
   | some ⟨.type "tuple",_,.seq its _,_⟩=>if its.size ≤ sizeLine then (Q5h K n its.toList).map fun p=>(.ref a,.tuple p.2) else none
   | _=>none
  | _=>none
def Q5h (K:PySem.W.Frag):Nat → List Value → Option (List V × List D)
 | 0,_=>none
 | n + 1,us=>match us with
  | []=>some ([],[])
  | u :: r=>match kRp K n u,Q5h K n r with
   | some p,some q=>some (p.1 :: q.1,p.2 :: q.2)
   | _,_=>none
end
def kDn (K:PySem.W.Frag):Value → Bool
 | .ref a=>match K.lookup a with
  | some ⟨.type "tuple",none,_,_⟩=>true
  | _=>false
 | _=>false
def Q7q (c d:Str):Bool:=(c == d) || (d == "StoreError")
def Q6x (K:PySem.W.Frag) (C:Addr):Bool:=PySem.W.excIn K C [.type "ValueError",.type "Exception",.type "BaseException",.type "object"] "ValueError.__new__" && PySem.W.keepIn K (.ref C) && (PySem.W.subIn K (.ref C) (.type "BaseException") == some true) && (match PySem.W.typeIn K (.ref C) with | some (.type t)=>t == "type" | _=>false)
 && (match PySem.W.findIn K (.ref C) "__getattribute__" with | some (some (.builtin t))=>t == "BaseException.__getattribute__" | _=>false) && (match PySem.W.findIn K (.ref C) "__getattr__" with | some none=>true | _=>false) && PySem.W.hasDictIn K C
 && (match PySem.W.findIn K (.ref C) "__class__" with | some (some (.builtin t))=>t == "object.__class__" | _=>false) && (match PySem.W.specialIn K (.builtin "object.__class__") "__get__" with | some (some (.builtin t))=>t == "getset_descriptor.__get__" | _=>false) && (PySem.W.takesIn K (.builtin "object.__class__") == some true) && (PySem.W.mroIn K C (.type "object") == some true) && (PySem.W.kitOne K (.ref C) (.type "ValueError") == some true)
def excB (K:PySem.W.Frag) (ns:List Str):Bool:=ns.all fun c=>match PySem.W.nsIn K mainGlobals c with
 | some (some (.ref C))=>Q6x K C && ns.all fun d=>match PySem.W.nsIn K mainGlobals d with
  | some (some (.ref D))=>(PySem.W.kitOne K (.ref C) (.ref D) == some (Q7q c d)) && (PySem.W.exmOne K (.ref C) (.ref D) == some (Q7q c d))
  | _=>false
 | _=>false
open He
def Q9A (K:PySem.W.Frag) (x:Str):Option D:=match PySem.W.nsIn K mainGlobals x with
 | some (some u)=>(kRp K 40 u).map (·.2)
 | _=>none
def Q9C (o:Obj):List Addr:=He.refV o.cls ++ match o.data with
 | .seq its _=>its.toList.flatMap He.refV
 | .dict es _=>es.toList.flatMap fun e=>He.refV e.val
 | .func fd=>He.refV fd.code
 | .cls cd=>cd.ns :: cd.mro.flatMap He.refV
 | _=>[]
def rfZ (g:Addr → Option Obj) (as:List Addr):List Addr:=as.flatMap fun a=>match g a with
 | some o=>Q9C o
 | none=>[]
def asZ (g:Addr → Option Obj):List Addr:=(fun r1:List Addr=>(fun r2:List Addr=>(fun r3:List Addr=>mainGlobals :: (r1 ++ (r2 ++ (r3 ++ rfZ g r3)))) (rfZ g r2)) (rfZ g r1)) (rfZ g [mainGlobals])
abbrev AlZ:Type:=(AlT × Bool) × List (Option D)
def Q8N (fa:List Fa) (fn:List DefD) (ts:List He.Tab) (ex:PySem.W.Frag → Bool) (cs:List (Str × D)) (g:Addr → Option Obj):AlZ:=((obsT fa fn ts (frG g (asZ g)),ex (frG g (asZ g))),cs.map fun c=>Q9A (frG g (asZ g)) c.1)
def valZ (fn:List DefD) (ts:List He.Tab) (cs:List (Str × D)) (w:World):AlZ:=((valT fn ts w,true),cs.map fun c=>some c.2)
structure Wo (fa:List Fa) (fn:List DefD) (ts:List He.Tab) (ex:PySem.W.Frag → Bool) (cs:List (Str × D)) (w:World) (K:PySem.W.Frag):Prop where
 t:SaysT fa fn ts w K
 more:ex K = true
 cs:cs.map (fun c=>Q9A K c.1) = cs.map fun c=>some c.2
def Q8b (fa:List Fa) (fn:List DefD) (ts:List He.Tab) (ex:PySem.W.Frag → Bool) (cs:List (Str × D)):PySem.W.Hook where
 α:=AlZ
 obs:=fun s=>Q8N fa fn ts ex cs s.heap.get?
 val:=fun w=>valZ fn ts cs w
 says:=fun w h=>∃ K:PySem.W.Frag,K.In h ∧ Wo fa fn ts ex cs w K
 of:=fun _ _ e=>⟨_,frG_in,⟨congrArg (fun z:AlZ=>z.1.1) e,congrArg (fun z:AlZ=>z.1.2) e,congrArg (fun z:AlZ=>z.2) e⟩⟩
 keeps:=fun _ _ _ ⟨K,hK,c⟩ k=>⟨K,PySem.W.Frag.In.keeps hK k,c⟩
theorem Q71 {fa:List Fa} {fn:List DefD} {ts:List He.Tab} {ex:PySem.W.Frag → Bool} {cs:List (Str × D)} {g:Addr → Option Obj} {s:Shared} (h:∀ a,g a = s.heap.get? a):Q8N fa fn ts ex cs g = (Q8b fa fn ts ex cs).obs s:=by
 have e:g = s.heap.get?:=funext h
 rw [e] <;> rfl
abbrev dt (x d:Str) (st:Stmt):DefD:=⟨(x,none),d,d,defArgs st,defBody st,defScope st,[],[]⟩
end Z
namespace Z
open PySem
end Z
namespace Z
open PySem
def kdS (K:PySem.W.Frag) (p:Addr) (z s:Str):Bool:=match PySem.W.nsIn K p z with
 | some (some (.str j _))=>j == s
 | _=>false
end Z
namespace K32
open PySem PySem.Spec PyProof.Rows L2 Z
def Vv (i:Nat):Stmt:=PySem.Challenge.pw_soundstore_k32_what_is_a_deed.main.body.getD i (.Pass ⟨0,0,0,0⟩)
def Q9D:List He.Fa:=[.glo "is_number",.glo "are_numbers",.glo "is_deed",.glo "_law_deck",.glo "_law_draw",.glo "_law_forms",.glo "_law_number",.glo "_law_part",.glo "_law_deed",.glo "_law_is_number",.glo "_law_is_deed",.glo "_law_other",.glo "_law_bent",.glo "_law_right",.glo "_law_deep",.glo "law",.free "all",.free "bool",.free "int",.free "isinstance",.free "len",.free "list",.free "range",.free "repr",.free "reversed",.free "str",.free "sum",.free "tuple",.free "zip",.glo "FORMS"]
def Q8r:List He.Fa:=Q9D
def Q9f:List He.DefD:=[dt "is_number" "is_number" (Vv 2),dt "are_numbers" "are_numbers" (Vv 3),dt "is_deed" "is_deed" (Vv 4),dt "_law_deck" "_law_deck" (Vv 6),dt "_law_draw" "_law_draw" (Vv 7),dt "_law_forms" "_law_forms" (Vv 9),dt "_law_number" "_law_number" (Vv 10),dt "_law_part" "_law_part" (Vv 11),dt "_law_deed" "_law_deed" (Vv 12),dt "_law_is_number" "_law_is_number" (Vv 13),dt "_law_is_deed" "_law_is_deed" (Vv 14),dt "_law_other" "_law_other" (Vv 15),dt "_law_bent" "_law_bent" (Vv 16),dt "_law_right" "_law_right" (Vv 17),dt "_law_deep" "_law_deep" (Vv 18),dt "law" "law" (Vv 19)]
def Q95:List He.DefD:=Q9f
def Q98:List He.Tab:=[(fun K=>He.ga K "FORMS",["folder", "file", "write", "link", "move", "drop"])]
def Q8Y:List (Str × D):=[]
def Q7j (K:PySem.W.Frag):Bool:=([("folder", "pn"),("file", "pnw"),("write", "pw"),("link", "ppn"),("move", "ppn"),("drop", "p")]:List (Str × Str)).all fun h=>kdS K (He.ga K "FORMS") h.1 h.2
def Q9d:List Str:=["__name__", "FORMS", "is_number", "are_numbers", "is_deed", "_law_deck", "_law_draw", "_law_pick", "_law_forms", "_law_number", "_law_part", "_law_deed", "_law_is_number", "_law_is_deed", "_law_other", "_law_bent", "_law_right", "_law_deep"]
def hdNm:List Str:=Q9d
abbrev hdR:PySem.W.OpenRow:=PySem.W.OpenLaw.row PySem.Challenge.rw_soundstore_k32_what_is_a_deed
abbrev hdQ:Program:=PySem.W.view hdR.prog [19]
abbrev hdH:PySem.W.Hook:=Q8b Q8r Q95 Q98 Q7j Q8Y
def hdO (s:PySem.W.SharedT):AlZ:=Q8N Q8r Q95 Q98 Q7j Q8Y (HandSHeadRun.getT s)
theorem hdO_eq (s:PySem.W.SharedT):hdO s = hdH.obs s.abs:=Q71 (HandSHeadRun.getT_eq s)
theorem Q5f (w:World):HandSHeadRun.RunEq hdR hdQ hdH hdO 12000 hdNm (w.withFollow "special-get-raises" false):=by
 intro os
 kernel_rfl
theorem Q6k (w:World):HandSHeadRun.RunEq hdR hdQ hdH hdO 12000 hdNm (w.withFollow "special-get-raises" true):=by
 intro os
 kernel_rfl
theorem run_w (w:World):HandSHeadRun.RunEq hdR hdQ hdH hdO 12000 hdNm w:=PySem.W.byRow2 "special-get-raises" (P:=fun w=>HandSHeadRun.RunEq hdR hdQ hdH hdO 12000 hdNm w) Q5f Q6k w
end K32
namespace K32
open PySem PySem.W PySem.Calls PyProof.Rows
theorem hd_o (h:OpenRow.wellSaid (OpenLaw.row PySem.Challenge.rw_soundstore_k32_what_is_a_deed) = true → OpenRow.Holds (OpenLaw.row PySem.Challenge.rw_soundstore_k32_what_is_a_deed)):OpenLaw.Holds PySem.Challenge.rw_soundstore_k32_what_is_a_deed:=by
 o_law
 rename_i q
 exact h q
abbrev hdD:DefRec:=HandSHeadRun.topDef hdR.prog 19
theorem hd_e:opening hdR.prog = plainProg hdR.prog.main.scope.names:=by kernel_rfl
theorem hd_f:∀ s,fenceModules? hdR.prog s = some s:=fun s=>by kernel_rfl
theorem hd_d:defOf hdQ hdR.name = some (hdD,[]):=by kernel_rfl
theorem hd_p:hdR.prog.theDef hdR.name = some (hdD.params,hdD.body,hdD.scope):=by kernel_rfl
theorem hd_k:kwWritten? hdD.params.kwonlyargs hdD.params.kw_defaults = some []:=by kernel_rfl
theorem hd_1:(!hdR.writes || hdR.records.isEmpty) = true:=by rfl
theorem hd_3:(chainsOk hdQ && opensWell hdR.prog && (frees hdR.toRowW && hdR.within.isEmpty)) = true:=by decide +kernel
theorem hd_4:hdR.prog.bare:=⟨rfl,rfl,rfl,rfl,rfl,by decide +kernel⟩
end K32
namespace Z
open PySem PySem.Spec PyProof.Rows L2
def Q2d:Key → D
 | .inl i=>.int i
 | .inr s=>.str s
mutual
/-- the value v is the datum d,in the part G of the heap -/
inductive Rp (K:PySem.W.Frag) (G:Hp):V → D → Prop
 | non:Rp K G .non .none
 | bl (b:Bool):Rp K G (.bl b) (.bool b)
 | int (i:Int):Rp K G (.int i) (.int i)
 | str (x:Str):Rp K G (.str x) (.str x)
 | lst {a:Addr} {xs:List V} {ds:List D}:G a = some (.lst xs) → Rps K G xs ds → Rp K G (.ref a) (.list ds)
 | tup {a:Addr} {xs:List V} {ds:List D}:SqT K G a xs → Rps K G xs ds → Rp K G (.ref a) (.tuple ds)
 | dic {a:Addr} {o:Obj} {kvs:List (Key × V)} {ds:List (D × D)}:G a = some (.frz o (.dK kvs)) → RpK K G kvs ds → Rp K G (.ref a) (.dict ds)
inductive Rps (K:PySem.W.Frag) (G:Hp):List V → List D → Prop
 | nil:Rps K G [] []
 | cons {v:V} {vs:List V} {d:D} {ds:List D}:Rp K G v d → Rps K G vs ds → Rps K G (v :: vs) (d :: ds)
inductive RpK (K:PySem.W.Frag) (G:Hp):List (Key × V) → List (D × D) → Prop
 | nil:RpK K G [] []
 | cons {k:Key} {v:V} {r:List (Key × V)} {d:D} {ds:List (D × D)}:Rp K G v d → RpK K G r ds → RpK K G ((k,v) :: r) ((Q2d k,d) :: ds)
end
theorem Same.sqt {K:PySem.W.Frag} {H H':Hp} {a:Addr} {xs:List V} (e:Same H H') (h:SqT K H a xs):SqT K H' a xs:=by
 rcases h with h | h
 ·rcases h with h | ⟨o,h⟩
  ·exact .inl (.inl (e _ _ h))
  ·exact .inl (.inr ⟨o,e _ _ h⟩)
 ·exact .inr h
section
variable {K:PySem.W.Frag} {G G':Hp}
mutual
theorem Rp.mono (e:Same G G'):∀ {v:V} {d:D},Rp K G v d → Rp K G' v d
 | _,_,.non=>.non
 | _,_,.bl b=>.bl b
 | _,_,.int i=>.int i
 | _,_,.str x=>.str x
 | _,_,.lst h r=>.lst (e _ _ h) (Rps.mono e r)
 | _,_,.tup h r=>.tup (Same.sqt e h) (Rps.mono e r)
 | _,_,.dic h r=>.dic (e _ _ h) (RpK.mono e r)
theorem Rps.mono (e:Same G G'):∀ {vs:List V} {ds:List D},Rps K G vs ds → Rps K G' vs ds
 | _,_,.nil=>.nil
 | _,_,.cons h r=>.cons (Rp.mono e h) (Rps.mono e r)
theorem RpK.mono (e:Same G G'):∀ {vs:List (Key × V)} {ds:List (D × D)},RpK K G vs ds → RpK K G' vs ds
 | _,_,.nil=>.nil
 | _,_,.cons h r=>.cons (Rp.mono e h) (RpK.mono e r)
end
theorem Rps.length:∀ {vs:List V} {ds:List D},Rps K G vs ds → vs.length = ds.length
 | _,_,.nil=>rfl
 | _,_,.cons _ r=>congrArg (· + 1) r.length
theorem Rps.append:∀ {vs ws:List V} {ds es:List D},Rps K G vs ds → Rps K G ws es → Rps K G (vs ++ ws) (ds ++ es)
 | _,_,_,_,.nil,s=>s
 | _,_,_,_,.cons h r,s=>.cons h (r.append s)
theorem Rps.take:∀ {vs:List V} {ds:List D} (n:Nat),Rps K G vs ds → Rps K G (vs.take n) (ds.take n)
 | _,_,0,_=>by simpa using Rps.nil
 | _,_,_ + 1,.nil=>by simpa using Rps.nil
 | _,_,n + 1,.cons h r=>by simpa using Rps.cons h (r.take n)
theorem Rps.drop:∀ {vs:List V} {ds:List D} (n:Nat),Rps K G vs ds → Rps K G (vs.drop n) (ds.drop n)
 | _,_,0,r=>r
 | _,_,_ + 1,.nil=>.nil
 | _,_,n + 1,.cons _ r=>r.drop n
theorem Rps.get:∀ {vs:List V} {ds:List D} {i:Nat} {d:D},Rps K G vs ds → ds[i]? = some d → ∃ v,vs[i]? = some v ∧ Rp K G v d
 | _,_,_,_,.nil,e=>by simp at e
 | _,_,0,_,.cons h _,e=>by simp at e; subst e; exact ⟨_,rfl,h⟩
 | _,_,i + 1,d,.cons _ r,e=>by
  obtain ⟨v,h1,h2⟩:=Rps.get (i:=i) (d:=d) r (by simpa using e)
  exact ⟨v,by simpa using h1,h2⟩
theorem Rps.set:∀ {vs:List V} {ds:List D} {v:V} {d:D} (i:Nat),Rps K G vs ds → Rp K G v d → Rps K G (vs.set i v) (ds.set i d)
 | _,_,_,_,_,.nil,_=>.nil
 | _,_,_,_,0,.cons _ r,h=>.cons h r
 | _,_,_,_,i + 1,.cons q r,h=>.cons q (r.set i h)
theorem Rps.ints:∀ {vs:List V} {ns:List Int},Rps K G vs (ns.map Q0) → vs = ns.map V.int
 | _,[],.nil=>rfl
 | _,n :: ns,.cons h r=>by
  cases h
  rw [r.ints]
  rfl
theorem Q1Z:∀ (ns:List Int),Rps K G (ns.map V.int) (ns.map Q0)
 | []=>.nil
 | n :: ns=>.cons (.int n) (Q1Z ns)
end
mutual
def noL:D → Bool
 | .list _=>false
 | .dict _=>false
 | .tuple xs=>Q7C xs
 | _=>true
def Q7C:List D → Bool
 | []=>true
 | x :: xs=>noL x && Q7C xs
end
section
variable {K:PySem.W.Frag} {G G':Hp}
mutual
/-- tuples alone are looked at -/
theorem Rp.flat (e:∀ a xs,SqT K G a xs → SqT K G' a xs):∀ {v:V} {d:D},noL d = true → Rp K G v d → Rp K G' v d
 | _,_,_,.non=>.non
 | _,_,_,.bl b=>.bl b
 | _,_,_,.int i=>.int i
 | _,_,_,.str x=>.str x
 | _,_,h0,.lst _ _=>by simp [noL] at h0
 | _,_,h0,.tup h r=>.tup (e _ _ h) (Rps.flat e (by simpa [noL] using h0) r)
 | _,_,h0,.dic _ _=>by simp [noL] at h0
theorem Rps.flat (e:∀ a xs,SqT K G a xs → SqT K G' a xs):∀ {vs:List V} {ds:List D},Q7C ds = true → Rps K G vs ds → Rps K G' vs ds
 | _,_,_,.nil=>.nil
 | _,_,h0,.cons h r=>by
  simp only [Q7C,Q3] at h0
  exact .cons (Rp.flat e h0.1 h) (Rps.flat e h0.2 r)
end
end
inductive Sl where
 /-- nothing is known -/
 | no
 /-- a datum -/
 | fz (d:D)
 /-- a list or dict of the frame's own: nobody else knows it -/
 | ow (d:D)
 /-- an own dict while it is locked -/
 | lk (ds:List (D × D))
 /-- a law's deck -/
 | dk (cs:List Int) (m n:Int)
 /-- the script -/
 | scr (ns:List Int)
 /-- an object of the frame's own: its class,its fields and their slots -/
 | ob (c:Str) (fs:List (Str × Nat))
 /-- a field that isn't there yet -/
 | ab
 /-- a caught exception -/
 | xv (a:Addr)
 /-- an own dict of own lists -/
 | dl (ds:List (D × D))
inductive Fr where
 | n | l | t | p
 | s (j:Nat)
def K8 (K:PySem.W.Frag) (F H:Hp) (p:Addr):D → Prop
 | .list ds=>∃ xs,H p = some (.lst xs) ∧ Rps K F xs ds
 | .dict ds=>∃ kvs,H p = some (.dK kvs) ∧ RpK K F kvs ds
 | _=>False
def Q2w (K:PySem.W.Frag) (F H:Hp) (p:Addr):D → Prop
 | .list ds=>∃ xs,H p = some (.lst xs) ∧ Rps K F xs ds
 | .dict ds=>∃ o kvs,H p = some (.frz o (.dK kvs)) ∧ RpK K F kvs ds
 | _=>False
def PlT (K:PySem.W.Frag) (F:Hp) (v:V) (d:D):Prop:=∃ (p:Addr) (o:Obj) (xs:List V) (ds:List D),v = .ref p ∧ d = .tuple ds ∧ F p = some (.frz o (.tup xs)) ∧ o.dict = none ∧ Rps K F xs ds
def Q17 (K:PySem.W.Frag) (c:Str) (C:Addr):Prop:=PySem.W.nsIn K mainGlobals c = some (some (.ref C))
inductive DLs (K:PySem.W.Frag) (F H:Hp):List (Key × V) → List (D × D) → List Addr → Prop
 | nil:DLs K F H [] [] []
 | cons {k:Key} {q:Addr} {xs:List V} {ds:List D} {r:List (Key × V)} {s:List (D × D)} {A:List Addr}:H q = some (.lst xs) → Rps K F xs ds → DLs K F H r s A → DLs K F H ((k,.ref q) :: r) ((Q2d k,.list ds) :: s) (q :: A)
theorem DLs.mono {K:PySem.W.Frag} {F F' H H':Hp} (e:Same F F'):∀ {kvs:List (Key × V)} {ds:List (D × D)} {A:List Addr},(∀ a ∈ A,H' a = H a) → DLs K F H kvs ds A → DLs K F' H' kvs ds A
 | _,_,_,_,.nil=>.nil
 | _,_,_,k,.cons h r t=>.cons (by rw [k _ (by simp)]; exact h) (r.mono e) (t.mono e fun a ha=>k a (Q9 _ ha))
theorem DLs.there {K:PySem.W.Frag} {F H:Hp}:∀ {kvs:List (Key × V)} {ds:List (D × D)} {A:List Addr},DLs K F H kvs ds A → ∀ a ∈ A,∃ xs,H a = some (.lst xs)
 | _,_,_,.nil,a,ha=>by simp at ha
 | _,_,_,.cons h _ t,a,ha=>by
  rcases Q7.mp ha with rfl | m
  ·exact ⟨_,h⟩
  ·exact t.there a m
def Wx (K:PySem.W.Frag) (F H:Hp):Sl → Option V → List Addr → Prop
 | .no,_,A=>A = []
 | .fz d,v,A=>A = [] ∧ ∃ x,v = some x ∧ Rp K F x d
 | .ow d,v,A=>∃ p,v = some (.ref p) ∧ A = [p] ∧ K8 K F H p d
 | .lk ds,v,A=>∃ p,v = some (.ref p) ∧ A = [p] ∧ Q2w K F H p (.dict ds)
 | .dk cs m n,v,A=>∃ p q,v = some (.ref p) ∧ A = [p,q] ∧ H p = some (.lst [.ref q,.int m,.int n]) ∧ H q = some (.lst (cs.map V.int))
 | .scr ns,v,A=>A = [] ∧ ∃ a,v = some (.ref a) ∧ SqL K F a (ns.map V.int)
 | .ab,v,A=>A = [] ∧ v = none
 | .xv a,v,A=>A = [] ∧ v = some (.ref a)
 | .dl ds,v,A=>∃ p kvs qs,v = some (.ref p) ∧ A = p :: qs ∧ (p :: qs).Nodup ∧ (kvs.map (·.1)).Nodup ∧ H p = some (.dK kvs) ∧ DLs K F H kvs ds qs
 | .ob c _,v,A=>∃ p dx C fvs,v = some (.ref p) ∧ A = [p,dx] ∧ Q17 K c C ∧ H p = some (.ins C dx fvs) ∧ H dx = some (.own p)
def jn (o:Option (Option V)):Option V:=o.join
structure Iom where
 f:Nat → Bool
 mv:Nat → Bool
instance:CoeFun Iom (fun _=>Nat → Bool):=⟨Iom.f⟩
def Iom.of (f:Nat → Bool):Iom:=⟨f,fun _=>false⟩
structure Fx where
 /-- slots that no statement stores to -/
 io:Iom
 /-- slots that are lent by the caller -/
 lt:Nat → Bool
 /-- fields of objects -/
 vt:Nat → Bool
 H0:Hp
 F0:Hp
 σ0:L2.St
 A0:Nat → List Addr
 mvl:∀ i,io.mv i = true → lt i = false
def Q4a (σ:L2.St) (fs:List (Str × Nat)):List (Str × V):=fs.filterMap fun q=>(jn σ[q.2]?).map fun v=>(q.1,v)
def Fx.any:Fx:=⟨Iom.of fun _=>false,fun _=>false,fun _=>false,fun _=>none,fun _=>none,[],fun _=>[],fun _ _=>rfl⟩
def ObR (io:Nat → Bool) (H:Hp) (v:Option V) (σ:L2.St) (fs:List (Str × Nat)):Prop:=(∀ q ∈ fs,io q.2 = true) ∧ ∀ p C dx fvs,v = some (.ref p) → H p = some (.ins C dx fvs) → fvs = Q4a σ fs
structure SR (K:PySem.W.Frag) (Y:Fx) (F H:Hp) (δ:List Sl) (σ:L2.St) (A:Nat → List Addr):Prop where
 len:δ.length = σ.length
 slot:∀ i s,δ[i]? = some s → Wx K F H s (jn σ[i]?) (A i)
 out:∀ i,δ[i]? = none → A i = []
 dis:∀ i j a,a ∈ A i → a ∈ A j → i = j
 hid:∀ i a,a ∈ A i → F a = none
 new:∀ i a,a ∈ A i → Y.lt i = false → Y.H0 a = none
 sub:Same F H
 fix:∀ i,Y.lt i = true → σ[i]? = Y.σ0[i]? ∧ A i = Y.A0 i
 ioA:∀ i,Y.lt i = true → True
 kp:∀ a o,Y.H0 a = some o → (∀ i,Y.lt i = true → a ∉ Y.A0 i) → H a = some o
 nw:∀ a,Y.F0 a = none → F a ≠ none → Y.H0 a = none
 f0:Same Y.F0 F
 lio:∀ i,(Y.lt i = true ∨ Y.vt i = true) → Y.io i = true
 ob:∀ (i:Nat) (c:Str) (fs:List (Str × Nat)),δ[i]? = some (Sl.ob c fs) → ObR Y.vt H (jn σ[i]?) σ fs
 vno:∀ (j:Nat),Y.io j = true → δ[j]? ≠ some Sl.no
theorem K8.mono {K:PySem.W.Frag} {F F' H H':Hp} {p:Addr} {d:D} (e:Same F F') (k:H' p = H p) (h:K8 K F H p d):K8 K F' H' p d:=by
 cases d with
 | list ds=>obtain ⟨xs,h1,h2⟩:=h; exact ⟨xs,by rw [k]; exact h1,h2.mono e⟩
 | dict ds=>obtain ⟨xs,h1,h2⟩:=h; exact ⟨xs,by rw [k]; exact h1,h2.mono e⟩
 | _=>exact h.elim
theorem K8.there {K:PySem.W.Frag} {F H:Hp} {p:Addr} {d:D} (h:K8 K F H p d):(∃ xs,H p = some (.lst xs)) ∨ ∃ kvs,H p = some (.dK kvs):=by
 cases d with
 | list ds=>obtain ⟨xs,h1,_⟩:=h; exact .inl ⟨_,h1⟩
 | dict ds=>obtain ⟨xs,h1,_⟩:=h; exact .inr ⟨_,h1⟩
 | _=>exact h.elim
theorem Q2w.mono {K:PySem.W.Frag} {F F' H H':Hp} {p:Addr} {d:D} (e:Same F F') (k:H' p = H p) (h:Q2w K F H p d):Q2w K F' H' p d:=by
 cases d with
 | list ds=>obtain ⟨xs,h1,h2⟩:=h; exact ⟨xs,by rw [k]; exact h1,h2.mono e⟩
 | dict ds=>obtain ⟨o,xs,h1,h2⟩:=h; exact ⟨o,xs,by rw [k]; exact h1,h2.mono e⟩
 | _=>exact h.elim
def Thr (H:Hp) (a:Addr):Prop:=(∃ xs,H a = some (.lst xs)) ∨ (∃ kvs,H a = some (.dK kvs)) ∨ (∃ o kvs,H a = some (.frz o (.dK kvs))) ∨ (∃ C dx fs,H a = some (.ins C dx fs)) ∨ ∃ b,H a = some (.own b)
theorem Thr.some {H:Hp} {a:Addr} (h:Thr H a):∃ u,H a = some u:=by
 rcases h with ⟨_,e⟩ | ⟨_,e⟩ | ⟨_,_,e⟩ | ⟨_,_,_,e⟩ | ⟨_,e⟩ <;> exact ⟨_,e⟩
theorem Q2w.there {K:PySem.W.Frag} {F H:Hp} {p:Addr} {d:D} (h:Q2w K F H p d):Thr H p:=by
 cases d with
 | list ds=>obtain ⟨xs,h1,_⟩:=h; exact .inl ⟨_,h1⟩
 | dict ds=>obtain ⟨o,xs,h1,_⟩:=h; exact .inr (.inr (.inl ⟨_,_,h1⟩))
 | _=>exact h.elim
theorem K8.thr {K:PySem.W.Frag} {F H:Hp} {p:Addr} {d:D} (h:K8 K F H p d):Thr H p:=by
 rcases h.there with e | e
 ·exact .inl e
 ·exact .inr (.inl e)
theorem Wx.there {K:PySem.W.Frag} {F H:Hp} {s:Sl} {v:Option V} {A:List Addr} (h:Wx K F H s v A) {a:Addr} (ha:a ∈ A):Thr H a:=by
 cases s with
 | no=>cases h; simp at ha
 | fz d=>obtain ⟨e,_⟩:=h; subst e; simp at ha
 | ow d=>obtain ⟨p,_,e,o⟩:=h; subst e; simp at ha; subst ha; exact o.thr
 | lk d=>obtain ⟨p,_,e,o⟩:=h; subst e; simp at ha; subst ha; exact o.there
 | dk cs m n =>
  obtain ⟨p,q,_,e,h1,h2⟩:=h
  subst e
  simp at ha
  rcases ha with rfl | rfl
  ·exact .inl ⟨_,h1⟩
  ·exact .inl ⟨_,h2⟩
 | scr ns=>obtain ⟨e,_⟩:=h; subst e; simp at ha
 | ab=>obtain ⟨e,_⟩:=h; subst e; simp at ha
 | xv a=>obtain ⟨e,_⟩:=h; subst e; simp at ha
 | dl ds =>
  obtain ⟨p,kvs,qs,_,e,_,_,h1,h2⟩:=h
  subst e
  rcases Q7.mp ha with rfl | m
  ·exact .inr (.inl ⟨_,h1⟩)
  ·exact .inl (h2.there a m)
 | ob c fs =>
  obtain ⟨p,dx,C,fvs,_,e,_,h1,h2⟩:=h
  subst e
  simp at ha
  rcases ha with rfl | rfl
  ·exact .inr (.inr (.inr (.inl ⟨_,_,_,h1⟩)))
  ·exact .inr (.inr (.inr (.inr ⟨_,h2⟩)))
theorem Wx.mono {K:PySem.W.Frag} {F F' H H':Hp} {s:Sl} {v:Option V} {A:List Addr} (e:Same F F') (k:∀ a ∈ A,H' a = H a) (h:Wx K F H s v A):Wx K F' H' s v A:=by
 cases s with
 | no=>exact h
 | fz d=>obtain ⟨e1,x,e2,r⟩:=h; exact ⟨e1,x,e2,r.mono e⟩
 | ow d=>obtain ⟨p,e1,e2,o⟩:=h; subst e2; exact ⟨p,e1,rfl,o.mono e (k p (by simp))⟩
 | lk d=>obtain ⟨p,e1,e2,o⟩:=h; subst e2; exact ⟨p,e1,rfl,o.mono e (k p (by simp))⟩
 | dk cs m n =>
  obtain ⟨p,q,e1,e2,h1,h2⟩:=h
  subst e2
  exact ⟨p,q,e1,rfl,by rw [k p (by simp)]; exact h1,by rw [k q (by simp)]; exact h2⟩
 | scr ns=>obtain ⟨e1,a,e2,r⟩:=h; exact ⟨e1,a,e2,e.seq r⟩
 | ab=>exact h
 | xv a=>exact h
 | dl ds =>
  obtain ⟨p,kvs,qs,e1,e2,nd,nk,h1,h2⟩:=h
  subst e2
  exact ⟨p,kvs,qs,e1,rfl,nd,nk,by rw [k p (by simp)]; exact h1,h2.mono e fun a ha=>k a (Q9 _ ha)⟩
 | ob c fs =>
  obtain ⟨p,dx,C,fvs,e1,e2,e3,h1,h2⟩:=h
  subst e2
  exact ⟨p,dx,C,fvs,e1,rfl,e3,by rw [k p (by simp)]; exact h1,by rw [k dx (by simp)]; exact h2⟩
section
variable {K:PySem.W.Frag} {Y:Fx} {F F' F1 F2 H H' H1 H2:Hp} {δ δ':List Sl} {σ:L2.St} {A:Nat → List Addr} {M M' R R':List Nat}
theorem SR.there (S:SR K Y F H δ σ A) {i:Nat} {a:Addr} (ha:a ∈ A i):Thr H a:=by
 cases e:δ[i]? with
 | none=>rw [S.out i e] at ha; simp at ha
 | some s=>exact (S.slot i s e).there ha
theorem SR.isSome (S:SR K Y F H δ σ A) {i:Nat} {a:Addr} (ha:a ∈ A i):H a ≠ none:=by
 obtain ⟨u,e⟩:=(S.there ha).some
 rw [e]; simp
theorem SR.nlt (S:SR K Y F H δ σ A) {i:Nat} (h:Y.io i = false):Y.lt i = false:=by
 cases e:Y.lt i with
 | false=>rfl
 | true=>rw [S.lio i (.inl e)] at h; cases h
theorem SR.nvt (S:SR K Y F H δ σ A) {i:Nat} (h:Y.io i = false):Y.vt i = false:=by
 cases e:Y.vt i with
 | false=>rfl
 | true=>rw [S.lio i (.inr e)] at h; cases h
theorem SR.obp (S:SR K Y F H δ σ A) {i:Nat} {c:Str} {fs:List (Str × Nat)} {p:Addr} (h:δ[i]? = some (.ob c fs)) (e:jn σ[i]? = some (.ref p)):p ∈ A i:=by
 obtain ⟨q,dx,C,fvs,e1,e2,_⟩:=S.slot i _ h
 rw [e] at e1
 cases e1
 rw [e2]
 simp
theorem SR.obK (S:SR K Y F H δ σ A) (k:∀ (i:Nat) (c:Str) (fs:List (Str × Nat)),δ[i]? = some (Sl.ob c fs) → ∀ a ∈ A i,H' a = H a):∀ (i:Nat) (c:Str) (fs:List (Str × Nat)),δ[i]? = some (Sl.ob c fs) → ObR Y.vt H' (jn σ[i]?) σ fs:=fun i c fs h=>by
 obtain ⟨h1,h2⟩:=S.ob i c fs h
 refine ⟨h1,fun p C dx fvs e1 e2=>h2 p C dx fvs e1 ?_⟩
 rw [← k i c fs h p (S.obp h e1)]
 exact e2
structure Stp (A:Nat → List Addr) (M:List Nat) (F H F' H':Hp):Prop where
 f:Same F F'
 nw:∀ a,F a = none → F' a ≠ none → H a = none
 kp:∀ a o,H a = some o → (∀ i ∈ M,a ∉ A i) → H' a = some o
theorem Stp.refl:Stp A M F H F H:=⟨Same.refl _,fun _ h h'=>absurd h h',fun _ _ h _=>h⟩
theorem Stp.mono (h:Stp A M F H F' H') (s:∀ i ∈ M,i ∈ M'):Stp A M' F H F' H':=⟨h.f,h.nw,fun a o e n=>h.kp a o e fun i hi=>n i (s i hi)⟩
theorem Stp.trans (S1:SR K Y F1 H1 δ' σ A) (h:Stp A M F H F1 H1) (h':Stp A M' F1 H1 F2 H2):Stp A (M ++ M') F H F2 H2:=by
 refine ⟨h.f.trans h'.f,fun a e n=>?_,fun a o e n=>?_⟩
 ·cases e1:F1 a with
  | some o=>exact h.nw a e (by rw [e1]; simp)
  | none =>
   have q:=h'.nw a e1 n
   cases e2:H a with
   | none=>rfl
   | some o =>
    by_cases c:∃ i ∈ M,a ∈ A i
    ·obtain ⟨i,_,hi⟩:=c
     exact absurd q (S1.isSome hi)
    ·rw [h.kp a o e2 fun i hi z=>c ⟨i,hi,z⟩] at q
     cases q
 ·exact h'.kp a o (h.kp a o e fun i hi=>n i (Qf _ hi)) fun i hi=>n i (Qm _ hi)
def ex (R:List Nat) (A:Nat → List Addr) (F H:Hp):Hp:=fun a=>if ∃ i ∈ R,a ∈ A i then H a else F a
theorem Q6A:ex [] A F H = F:=by
 funext a
 unfold ex
 rw [if_neg]
 simp
theorem Q06 (S:SR K Y F H δ σ A):Same (ex R A F H) H:=fun a o e=>by
 unfold ex at e
 split at e
 ·exact e
 ·exact S.sub a o e
theorem Q05 (S:SR K Y F H δ σ A):Same F (ex R A F H):=fun a o e=>by
 unfold ex
 rw [if_neg]
 ·exact e
 ·rintro ⟨i,_,h⟩
  rw [S.hid i a h] at e
  cases e
theorem SR.laid (S:SR K Y F H δ σ A) {p:Addr} {o:HO} (hp:H p = none):SR K Y (upd F p o) (upd H p o) δ σ A:=by
 have hF:F p = none:=S.sub.free hp
 have sF:Same F (upd F p o):=fun b x e=>by rw [upd_ne (ne_of_none e hF)]; exact e
 have nA:∀ i a,a ∈ A i → a ≠ p:=fun i a h e=>by subst e; exact S.isSome h hp
 refine ⟨S.len,fun i s e=>(S.slot i s e).mono sF fun a ha=>upd_ne (nA i a ha),S.out,S.dis,fun i a h=>by rw [upd_ne (nA i a h)]; exact S.hid i a h,S.new,fun b x e=>?_,S.fix,S.ioA,fun a x e n=>?_,fun a e n=>?_,S.f0.trans sF,S.lio,S.obK fun i _ _ _ a ha=>upd_ne (nA i a ha),S.vno⟩
 ·by_cases c:b = p
  ·subst c; rw [upd_same] at e ⊢; exact e
  ·rw [upd_ne c] at e ⊢; exact S.sub _ _ e
 ·have q:=S.kp a x e n
  rw [upd_ne (ne_of_none q hp)]
  exact q
 ·by_cases c:a = p
  ·subst c
   cases e2:Y.H0 a with
   | none=>rfl
   | some x =>
    by_cases c2:∃ i,Y.lt i = true ∧ a ∈ Y.A0 i
    ·obtain ⟨i,hi,hA⟩:=c2
     rw [← (S.fix i hi).2] at hA
     exact absurd hp (S.isSome hA)
    ·have:=S.kp a x e2 fun i hi z=>c2 ⟨i,hi,z⟩
     rw [hp] at this
     cases this
  ·rw [upd_ne c] at n
   exact S.nw a e n
theorem Stp.laid (S:SR K Y F H δ σ A) {p:Addr} {o:HO} (hp:H p = none):Stp A M F H (upd F p o) (upd H p o):=by
 have hF:F p = none:=S.sub.free hp
 refine ⟨fun b x e=>by rw [upd_ne (ne_of_none e hF)]; exact e,fun a e n=>?_,fun a x e _=>by rw [upd_ne (ne_of_none e hp)]; exact e⟩
 by_cases c:a = p
 ·subst c; exact hp
 ·rw [upd_ne c] at n
  exact absurd e n
theorem SR.laidO (S:SR K Y F H δ σ A) {p:Addr} {o:HO} (hp:H p = none):SR K Y F (upd H p o) δ σ A:=by
 have nA:∀ i a,a ∈ A i → a ≠ p:=fun i a h e=>by subst e; exact S.isSome h hp
 refine ⟨S.len,fun i s e=>(S.slot i s e).mono (Same.refl _) fun a ha=>upd_ne (nA i a ha),S.out,S.dis,S.hid,S.new,fun b x e=>?_,S.fix,S.ioA,fun a x e n=>?_,S.nw,S.f0,S.lio,S.obK fun i _ _ _ a ha=>upd_ne (nA i a ha),S.vno⟩
 ·have q:=S.sub b x e
  rw [upd_ne (ne_of_none q hp)]
  exact q
 ·have q:=S.kp a x e n
  rw [upd_ne (ne_of_none q hp)]
  exact q
theorem Stp.laidO {p:Addr} {o:HO} (hp:H p = none):Stp A M F H F (upd H p o) :=
 ⟨Same.refl _,fun a e n=>absurd e n,fun a x e _=>by rw [upd_ne (ne_of_none e hp)]; exact e⟩
theorem SR.upd_free (S:SR K Y F H δ σ A) {p:Addr} {o:HO} (hF:F p = none) (nA:∀ j,p ∉ A j) (hY:Y.H0 p = none):SR K Y F (upd H p o) δ σ A:=by
 refine ⟨S.len,fun i s e=>(S.slot i s e).mono (Same.refl _) fun a ha=>upd_ne fun z=>nA i (by rw [← z]; exact ha),S.out,S.dis,S.hid,S.new,fun b x e=>?_,S.fix,S.ioA,fun a x e n=>?_,S.nw,S.f0,S.lio,S.obK fun i _ _ _ a ha=>upd_ne fun z=>nA i (by rw [← z]; exact ha),S.vno⟩
 ·have q:=S.sub b x e
  rw [upd_ne]
  ·exact q
  ·intro z
   subst z
   rw [hF] at e
   cases e
 ·have q:=S.kp a x e n
  rw [upd_ne]
  ·exact q
  ·intro z
   subst z
   rw [hY] at e
   cases e
def Vw (K:PySem.W.Frag) (F H:Hp) (A:Nat → List Addr) (R:List Nat) (v:V) (d:D):Prop:=Rp K F v d ∨ ∃ i ∈ R,∃ p,v = .ref p ∧ A i = [p] ∧ Q2w K F H p d
def Vws (K:PySem.W.Frag) (F H:Hp) (A:Nat → List Addr) (R:List Nat):List V → List D → Prop
 | [],[]=>True
 | v :: vs,d :: ds=>Vw K F H A R v d ∧ Vws K F H A R vs ds
 | _,_=>False
theorem Vw.nil {v:V} {d:D} (h:Vw K F H A [] v d):Rp K F v d:=by
 rcases h with h | ⟨i,hi,_⟩
 ·exact h
 ·simp at hi
theorem Vw.mono {v:V} {d:D} (h:Vw K F H A R v d) (s:∀ i ∈ R,i ∈ R'):Vw K F H A R' v d:=by
 rcases h with h | ⟨i,hi,q⟩
 ·exact .inl h
 ·exact .inr ⟨i,s i hi,q⟩
theorem Vw.step {v:V} {d:D} (h:Vw K F H A R v d) (S:SR K Y F H δ σ A) (st:Stp A M F H F' H') (dj:∀ i ∈ R,i ∉ M):Vw K F' H' A R v d:=by
 rcases h with h | ⟨i,hi,p,e,eA,o⟩
 ·exact .inl (h.mono st.f)
 ·refine .inr ⟨i,hi,p,e,eA,o.mono st.f ?_⟩
  have hp:p ∈ A i:=by rw [eA]; simp
  have na:∀ j ∈ M,p ∉ A j:=fun j hj z=>by
   have:j = i:=S.dis j i p z hp
   subst this
   exact dj _ hi hj
  obtain ⟨xs,q⟩:=o.there.some
  rw [q,st.kp p _ q na]
theorem Vws.nil:∀ {vs:List V} {ds:List D},Vws K F H A [] vs ds → Rps K F vs ds
 | [],[],_=>.nil
 | v :: vs,d :: ds,⟨h,r⟩=>.cons h.nil (Vws.nil r)
 | [],_ :: _,h=>h.elim
 | _ :: _,[],h=>h.elim
theorem Vws.mono (s:∀ i ∈ R,i ∈ R'):∀ {vs:List V} {ds:List D},Vws K F H A R vs ds → Vws K F H A R' vs ds
 | [],[],_=>trivial
 | v :: vs,d :: ds,⟨h,r⟩=>⟨h.mono s,Vws.mono s r⟩
 | [],_ :: _,h=>h.elim
 | _ :: _,[],h=>h.elim
theorem Vw.list {v:V} {ds:List D} (S:SR K Y F H δ σ A) (h:Vw K F H A R v (.list ds)):∃ p xs,v = .ref p ∧ H p = some (.lst xs) ∧ Rps K F xs ds:=by
 rcases h with h | ⟨i,hi,p,e,_,o⟩
 ·cases h with
  | lst h1 r=>exact ⟨_,_,rfl,S.sub _ _ h1,r⟩
 ·obtain ⟨xs,h1,r⟩:=o
  exact ⟨p,xs,e,h1,r⟩
theorem Vw.dict {v:V} {ds:List (D × D)} (S:SR K Y F H δ σ A) (h:Vw K F H A R v (.dict ds)):∃ p o kvs,v = .ref p ∧ H p = some (.frz o (.dK kvs)) ∧ RpK K F kvs ds:=by
 rcases h with h | ⟨i,hi,p,e,_,o⟩
 ·cases h with
  | dic h1 r=>exact ⟨_,_,_,rfl,S.sub _ _ h1,r⟩
 ·obtain ⟨o,xs,h1,r⟩:=o
  exact ⟨p,o,xs,e,h1,r⟩
theorem Vw.rp {v:V} {d:D} (h:Vw K F H A R v d) (hl:∀ ds,d ≠ .list ds) (hd:∀ ds,d ≠ .dict ds):Rp K F v d:=by
 rcases h with h | ⟨i,hi,p,e,_,o⟩
 ·exact h
 ·cases d with
  | list ds=>exact absurd rfl (hl ds)
  | dict ds=>exact absurd rfl (hd ds)
  | _=>exact o.elim
theorem Vw.tup {v:V} {ds:List D} (S:SR K Y F H δ σ A) (h:Vw K F H A R v (.tuple ds)):∃ p xs,v = .ref p ∧ SqT K F p xs ∧ SqT K H p xs ∧ Rps K F xs ds:=by
 cases h.rp (fun _=>by simp) (fun _=>by simp) with
 | tup h1 r=>exact ⟨_,_,rfl,h1,Same.sqt S.sub h1,r⟩
theorem Vw.int {v:V} {i:Int} (h:Vw K F H A R v (.int i)):v = .int i:=by
 cases h.rp (fun _=>by simp) (fun _=>by simp)
 rfl
theorem Vw.str {v:V} {i:Str} (h:Vw K F H A R v (.str i)):v = .str i:=by
 cases h.rp (fun _=>by simp) (fun _=>by simp)
 rfl
theorem Vw.bl {v:V} {i:Bool} (h:Vw K F H A R v (.bool i)):v = .bl i:=by
 cases h.rp (fun _=>by simp) (fun _=>by simp)
 rfl
theorem Vw.ex {v:V} {d:D} (S:SR K Y F H δ σ A) (h:Vw K F H A R v d):Rp K (ex R A F H) v d:=by
 rcases h with h | ⟨i,hi,p,e,eA,o⟩
 ·exact h.mono (Q05 S)
 ·subst e
  have g:Z.ex R A F H p = H p:=if_pos ⟨i,hi,by rw [eA]; simp⟩
  cases d with
  | list ds=>obtain ⟨xs,h1,h2⟩:=o; exact .lst (by rw [g]; exact h1) (h2.mono (Q05 S))
  | dict ds=>obtain ⟨o,xs,h1,h2⟩:=o; exact .dic (by rw [g]; exact h1) (h2.mono (Q05 S))
  | _=>exact o.elim
def EV (X:Cx) (e:Expr) (f:List Sl → Option (D × List Sl)) (R M:List Nat):Prop :=
 ∃ t,PE X e t ∧ ∀ (Y:Fx) (F H:Hp) (δ:List Sl) (σ:L2.St) (A:Nat → List Addr),SR X.K Y F H δ σ A → ∀ (d:D) (δ':List Sl),f δ = some (d,δ') → ∀ Q:VK,
  (∀ v F' H',Stp A M F H F' H' → SR X.K Y F' H' δ' σ A → Vw X.K F' H' A R v d → Q v H') → t σ H Q
def TV (X:Cx) (e:Expr) (f:List Sl → Option (Bool × List Sl)) (M:List Nat):Prop :=
 ∃ t,PT X e t ∧ ∀ (Y:Fx) (F H:Hp) (δ:List Sl) (σ:L2.St) (A:Nat → List Addr),SR X.K Y F H δ σ A → ∀ (b:Bool) (δ':List Sl),f δ = some (b,δ') → ∀ Q:Bool → Hp → Prop,
  (∀ F' H',Stp A M F H F' H' → SR X.K Y F' H' δ' σ A → Q b H') → t σ H Q
def AV (X:Cx) (es:List Expr) (f:List Sl → Option (List D × List Sl)) (R M:List Nat):Prop :=
 ∃ t,PA X es t ∧ ∀ (Y:Fx) (F H:Hp) (δ:List Sl) (σ:L2.St) (A:Nat → List Addr),SR X.K Y F H δ σ A → ∀ (ds:List D) (δ':List Sl),f δ = some (ds,δ') → ∀ Q:List V → Hp → Prop,
  (∀ vs F' H',Stp A M F H F' H' → SR X.K Y F' H' δ' σ A → Vws X.K F' H' A R vs ds → Q vs H') → t σ H Q
def NV (X:Cx) (e:Expr) (f:List Sl → Option (D × List Sl)) (M:List Nat):Prop :=
 ∃ t,PE X e t ∧ ∀ (Y:Fx) (F H:Hp) (δ:List Sl) (σ:L2.St) (A:Nat → List Addr),SR X.K Y F H δ σ A → ∀ (d:D) (δ':List Sl),f δ = some (d,δ') → ∀ Q:VK,
  (∀ p F' H',Stp A M F H F' H' → SR X.K Y F' H' δ' σ A → H p = none → F' p = none → K8 X.K F' H' p d → Q (.ref p) H') → t σ H Q
end
end Z
namespace Z
open PySem PySem.Spec PyProof.Rows L2
section
variable {X:Cx} {pos:Pos}
def Jl (d:D):List Sl → Option (D × List Sl):=fun δ=>some (d,δ)
def Jn (i:Nat):List Sl → Option (D × List Sl):=fun δ=>match δ[i]? with | some (.fz d)=>some (d,δ) | _=>none
def Q9o (i:Nat):List Sl → Option (D × List Sl):=fun δ=>match δ[i]? with | some (.ow (.list ds))=>some (.list ds,δ) | some (.lk ds)=>some (.dict ds,δ) | _=>none
theorem Q0r {e:Expr} {v:V} {d:D} (h:PE X e (tC v)) (r:∀ G,Rp X.K G v d):EV X e (Jl d) [] []:=by
 refine ⟨_,h,fun Y F H δ σ A S d' δ' e Q k=>?_⟩
 cases e
 exact k _ _ _ Stp.refl S (.inl (r _))
theorem Jk {i j}:EV X (.Constant (.int i) j pos) (Jl (.int i)) [] []:=Q0r pe_int fun _=>.int _
theorem V8 {i j}:EV X (.Constant (.bool i) j pos) (Jl (.bool i)) [] []:=Q0r pe_bl fun _=>.bl _
theorem Jz {i j}:EV X (.Constant (.str i) j pos) (Jl (.str i)) [] []:=Q0r pe_str fun _=>.str _
theorem Q3d {j}:EV X (.Constant .none j pos) (Jl .none) [] []:=Q0r pe_non fun _=>.non
theorem Q62 {i:Nat} {x:Str} (hN:X.N[i]? = some x) (hv:Vis X.env.scope x) (h1:(x == ("__debug__":Str)) = false:=by decide) (h2:(x == ("__classdict__":Str)) = false:=by decide):EV X (.Name x pos) (Jn i) [] []:=by
 refine ⟨_,pe_var hN hv h1 h2,fun Y F H δ σ A S d δ' e Q k=>?_⟩
 unfold Jn at e
 split at e
 ·rename_i d0 hd
  cases e
  obtain ⟨_,v,e2,r⟩:=S.slot i _ hd
  refine ⟨v,?_,k v F H Stp.refl S (.inl r)⟩
  cases e3:σ[i]? with
  | none=>rw [e3] at e2; cases e2
  | some o=>rw [e3] at e2; cases (show o = some v from e2); rfl
 ·cases e
theorem Vc {σ:L2.St} {i:Nat} {v:V} (h:jn σ[i]? = some v):σ[i]? = some (some v):=by
 cases e3:σ[i]? with
 | none=>rw [e3] at h; cases h
 | some o=>rw [e3] at h; cases (show o = some v from h); rfl
theorem Q6c {K:PySem.W.Frag} {F G H:Hp} {p:Addr} {d:D} (o:Q2w K F H p d) (s:Same F G) (g:G p = H p):Rp K G (.ref p) d:=by
 cases d with
 | list ds=>obtain ⟨xs,h1,h2⟩:=o; exact .lst (by rw [g]; exact h1) (h2.mono s)
 | dict ds=>obtain ⟨o,xs,h1,h2⟩:=o; exact .dic (by rw [g]; exact h1) (h2.mono s)
 | _=>exact o.elim
theorem Q8F {X:Cx} {e:Expr} {t u:TE} (h:PE X e t) (g:PE X e u):PE X e (fun σ H Q=>t σ H Q ∨ u σ H Q) :=
 ⟨fun pins s σ H Q I hw=>hw.elim (h.run pins s σ H Q I) (g.run pins s σ H Q I)⟩
theorem Q5r {X:Cx} {e:Expr} {t:TE} (h:PE X e t):PE X e (fun σ H Q=>t σ H fun v H1=>∃ d u,v = .ref d ∧ H1 d = some u ∧ Mut (some u) ∧ ∀ od,Q v (upd H1 d (.frz od u))):=by
 refine ⟨fun pins s σ H Q I hw=>?_⟩
 refine thn (h.run pins s σ H _ I hw) fun w s1 ⟨v,H1,I1,r,d,u,ev,hd,mu,q⟩=>?_
 obtain ⟨od,I2⟩:=I1.lock hd mu
 exact ⟨v,_,I2,r,q od⟩
theorem Q9b {i:Nat} {x:Str} (hN:X.N[i]? = some x) (hv:Vis X.env.scope x) (h1:(x == ("__debug__":Str)) = false:=by decide) (h2:(x == ("__classdict__":Str)) = false:=by decide):EV X (.Name x pos) (Q9o i) [i] []:=by
 refine ⟨_,pe_var hN hv h1 h2,fun Y F H δ σ A S d δ' e Q k=>?_⟩
 unfold Q9o at e
 split at e
 ·rename_i d0 hd
  cases e
  obtain ⟨p,e2,e3,o⟩:=S.slot i _ hd
  exact ⟨_,Vc e2,k _ F H Stp.refl S (.inr ⟨i,by simp,p,rfl,e3,o⟩)⟩
 ·rename_i d0 hd
  cases e
  obtain ⟨p,e2,e3,o⟩:=S.slot i _ hd
  exact ⟨_,Vc e2,k _ F H Stp.refl S (.inr ⟨i,by simp,p,rfl,e3,o⟩)⟩
 ·cases e
def OpS (X:Cx) (r:R2) (g:D → D → Option D):Prop :=
 ∀ (Y:Fx) (F H:Hp) (δ:List Sl) (σ:L2.St) (A:Nat → List Addr) (R:List Nat) (x y:V) (d e z:D),SR X.K Y F H δ σ A → Vw X.K F H A R x d → Vw X.K F H A R y e → g d e = some z →
  ∀ Q:VK,(∀ v F' H',Stp A [] F H F' H' → SR X.K Y F' H' δ σ A → Rp X.K F' v z → Q v H') → r x y H Q
def f2 (g:D → D → Option D) (fa fb:List Sl → Option (D × List Sl)):List Sl → Option (D × List Sl):=fun δ=>(fa δ).bind fun p=>(fb p.2).bind fun q=>(g p.1 q.1).map fun z=>(z,q.2)
section
variable {a b c:Expr} {fa fb fc:List Sl → Option (D × List Sl)} {Ra Rb Rc Ma Mb Mc:List Nat} {g:D → D → Option D} {r:R2}
theorem Q76 {fa fb:List Sl → Option (D × List Sl)} {δ δ':List Sl} {z:D} (h:f2 g fa fb δ = some (z,δ')):∃ d δ1 e,fa δ = some (d,δ1) ∧ fb δ1 = some (e,δ') ∧ g d e = some z:=by
 unfold f2 at h
 cases e1:fa δ with
 | none=>rw [e1] at h; cases h
 | some p =>
  obtain ⟨d,δ1⟩:=p
  rw [e1] at h
  simp only [Q1] at h
  cases e2:fb δ1 with
  | none=>rw [e2] at h; cases h
  | some q =>
   obtain ⟨e,δ2⟩:=q
   rw [e2] at h
   simp only [Q1] at h
   cases e3:g d e with
   | none=>rw [e3] at h; cases h
   | some w =>
    rw [e3] at h
    cases h
    exact ⟨d,δ1,e,rfl,e2,e3⟩
theorem two (ha:EV X a fa Ra Ma) (hb:EV X b fb Rb Mb) (dj:∀ i ∈ Ra,i ∉ Mb:=by decide):∃ ta tb,PE X a ta ∧ PE X b tb ∧
  ∀ (Y:Fx) (F H:Hp) (δ:List Sl) (σ:L2.St) (A:Nat → List Addr),SR X.K Y F H δ σ A → ∀ (z:D) (δ':List Sl),f2 g fa fb δ = some (z,δ') → ∀ Q:V → V → Hp → Prop,
   (∀ x y d e F' H',Stp A (Ma ++ Mb) F H F' H' → SR X.K Y F' H' δ' σ A → Vw X.K F' H' A (Ra ++ Rb) x d → Vw X.K F' H' A (Ra ++ Rb) y e → g d e = some z → Q x y H') → ta σ H fun x H1=>tb σ H1 fun y H2=>Q x y H2:=by
 obtain ⟨ta,pa,qa⟩:=ha
 obtain ⟨tb,pb,qb⟩:=hb
 refine ⟨ta,tb,pa,pb,fun Y F H δ σ A S z δ' e Q k=>?_⟩
 obtain ⟨d,δ1,e',e1,e2,e3⟩:=Q76 e
 refine qa Y F H δ σ A S d δ1 e1 _ fun x F1 H1 st1 S1 r1=>?_
 refine qb Y F1 H1 δ1 σ A S1 e' δ' e2 _ fun y F2 H2 st2 S2 r2=>?_
 refine k x y d e' F2 H2 (st1.trans S1 st2) S2 ?_ (r2.mono fun i hi=>Qm _ hi) e3
 exact (r1.step S1 st2 dj).mono fun i hi=>Qf _ hi
theorem Yo {A:Nat → List Addr} {M:List Nat} {F H F1 H1 F2 H2:Hp} {K:PySem.W.Frag} {Y:Fx} {δ:List Sl} {σ:L2.St} (S1:SR K Y F1 H1 δ σ A) (h:Stp A M F H F1 H1) (h':Stp A [] F1 H1 F2 H2):Stp A M F H F2 H2:=by
 have:=h.trans S1 h'
 rwa [Qx] at this
theorem Jq {op:Operator} (ho:OpR X (binaryOp op) r) (hs:OpS X r g) (ha:EV X a fa Ra Ma) (hb:EV X b fb Rb Mb) (dj:∀ i ∈ Ra,i ∉ Mb:=by decide):EV X (.BinOp a op b pos) (f2 g fa fb) [] (Ma ++ Mb):=by
 obtain ⟨ta,tb,pa,pb,q⟩:=two (g:=g) ha hb dj
 refine ⟨_,pe_op ho pa pb,fun Y F H δ σ A S z δ' e Q k=>?_⟩
 refine q Y F H δ σ A S z δ' e _ fun x y d e F1 H1 st S1 r1 r2 hg=>?_
 refine hs Y F1 H1 δ' σ A _ x y d e z S1 r1 r2 hg Q fun v F2 H2 st2 S2 r3=>?_
 exact k v F2 H2 (Yo S1 st st2) S2 (.inl r3)
theorem Q61 {op:CmpOp} (ho:OpR X (compareOp op) r) (hs:OpS X r g) (ha:EV X a fa Ra Ma) (hb:EV X b fb Rb Mb) (dj:∀ i ∈ Ra,i ∉ Mb:=by decide) (hm:behindInMarks op b = false:=by rfl):EV X (.Compare a [op] [b] pos) (f2 g fa fb) [] (Ma ++ Mb):=by
 obtain ⟨ta,tb,pa,pb,q⟩:=two (g:=g) ha hb dj
 refine ⟨_,pe_cmpR ho pa pb hm,fun Y F H δ σ A S z δ' e Q k=>?_⟩
 refine q Y F H δ σ A S z δ' e _ fun x y d e F1 H1 st S1 r1 r2 hg=>?_
 refine hs Y F1 H1 δ' σ A _ x y d e z S1 r1 r2 hg Q fun v F2 H2 st2 S2 r3=>?_
 exact k v F2 H2 (Yo S1 st st2) S2 (.inl r3)
def toB (o:Option (D × List Sl)):Option (Bool × List Sl):=o.bind fun p=>match p.1 with | .bool b=>some (b,p.2) | _=>none
theorem Q0w {o:Option (D × List Sl)} {b:Bool} {δ:List Sl} (h:toB o = some (b,δ)):o = some (.bool b,δ):=by
 unfold toB at h
 cases o with
 | none=>cases h
 | some p =>
  obtain ⟨d,δ1⟩:=p
  cases d <;> simp at h
  obtain ⟨rfl,rfl⟩:=h
  rfl
theorem Q4q {K:PySem.W.Frag} {G:Hp} {v:V} {b:Bool} (h:Rp K G v (.bool b)):v = .bl b:=by
 cases h
 rfl
theorem Xx {op:CmpOp} (ho:OpR X (compareOp op) r) (hs:OpS X r g) (ha:EV X a fa Ra Ma) (hb:EV X b fb Rb Mb) (dj:∀ i ∈ Ra,i ∉ Mb:=by decide) (hm:behindInMarks op b = false:=by rfl):TV X (.Compare a [op] [b] pos) (fun δ=>toB (f2 g fa fb δ)) (Ma ++ Mb):=by
 obtain ⟨ta,tb,pa,pb,q⟩:=two (g:=g) ha hb dj
 refine ⟨_,pt_cmpR ho pa pb hm,fun Y F H δ σ A S z δ' e Q k=>?_⟩
 refine q Y F H δ σ A S _ δ' (Q0w e) _ fun x y d e F1 H1 st S1 r1 r2 hg=>?_
 refine hs Y F1 H1 δ' σ A _ x y d e _ S1 r1 r2 hg _ fun v F2 H2 st2 S2 r3=>?_
 exact ⟨z,Q4q r3,k F2 H2 (Yo S1 st st2) S2⟩
theorem Y6 (h:EV X a fa Ra Ma) (he:∀ whole,isTrue a X.env whole = (do let v ← whole; standAt a.pos; holding [v] (truthy v)):=by intro _; rfl):TV X a (fun δ=>toB (fa δ)) Ma:=by
 obtain ⟨t,p,q⟩:=h
 refine ⟨_,pt_val p he,fun Y F H δ σ A S z δ' e Q k=>?_⟩
 refine q Y F H δ σ A S _ δ' (Q0w e) _ fun v F1 H1 st S1 r1=>?_
 exact ⟨z,r1.bl,k F1 H1 st S1⟩
variable {ga gb:List Sl → Option (Bool × List Sl)} {rest:List Expr}
def Q29 (ga gb:List Sl → Option (Bool × List Sl)):List Sl → Option (Bool × List Sl):=fun δ=>(ga δ).bind fun p=>match p.1 with | true=>gb p.2 | false=>some (false,p.2)
def gOr (ga gb:List Sl → Option (Bool × List Sl)):List Sl → Option (Bool × List Sl):=fun δ=>(ga δ).bind fun p=>match p.1 with | true=>some (true,p.2) | false=>gb p.2
def K3 (ga:List Sl → Option (Bool × List Sl)):List Sl → Option (Bool × List Sl):=fun δ=>(ga δ).map fun p=>(!p.1,p.2)
def WV (X:Cx) (e:Expr) (f:List Sl → Option (Bool × List Sl)) (M:List Nat):Prop :=
 ∃ t,PW X e t ∧ ∀ (Y:Fx) (F H:Hp) (δ:List Sl) (σ:L2.St) (A:Nat → List Addr),SR X.K Y F H δ σ A → ∀ (b:Bool) (δ':List Sl),f δ = some (b,δ') → ∀ Q:Bool → Hp → Prop,
  (∀ F' H',Stp A M F H F' H' → SR X.K Y F' H' δ' σ A → Q b H') → t σ H Q
theorem WV.tv {e:Expr} {f M} (h:WV X e f M):TV X e f M:=by
 obtain ⟨t,p,q⟩:=h
 exact ⟨t,p.pt,q⟩
theorem Q2Z (ha:TV X a ga Ma):WV X (.BoolOp .And [a] pos) ga Ma:=by
 obtain ⟨t,p,q⟩:=ha
 exact ⟨t,pw_and1 p,q⟩
theorem Kk (ha:TV X a ga Ma):WV X (.BoolOp .Or [a] pos) ga Ma:=by
 obtain ⟨t,p,q⟩:=ha
 exact ⟨t,pw_or1 p,q⟩
theorem Q2z (ha:TV X a ga Ma) (hb:WV X (.BoolOp .And (b :: rest) pos) gb Mb):WV X (.BoolOp .And (a :: b :: rest) pos) (Q29 ga gb) (Ma ++ Mb):=by
 obtain ⟨ta,pa,qa⟩:=ha
 obtain ⟨tb,pb,qb⟩:=hb
 refine ⟨_,pw_and pa pb,fun Y F H δ σ A S z δ' e Q k=>?_⟩
 unfold Q29 at e
 cases e1:ga δ with
 | none=>rw [e1] at e; cases e
 | some p =>
  obtain ⟨b1,δ1⟩:=p
  rw [e1] at e
  refine qa Y F H δ σ A S b1 δ1 e1 _ fun F1 H1 st1 S1=>?_
  cases b1 with
  | true=>exact iteT (qb Y F1 H1 δ1 σ A S1 z δ' e Q fun F2 H2 st2 S2=>k F2 H2 (st1.trans S1 st2) S2)
  | false =>
   cases e
   exact iteF (k F1 H1 (st1.mono fun i hi=>Qf _ hi) S1)
theorem Ws (ha:TV X a ga Ma) (hb:WV X (.BoolOp .Or (b :: rest) pos) gb Mb):WV X (.BoolOp .Or (a :: b :: rest) pos) (gOr ga gb) (Ma ++ Mb):=by
 obtain ⟨ta,pa,qa⟩:=ha
 obtain ⟨tb,pb,qb⟩:=hb
 refine ⟨_,pw_or pa pb,fun Y F H δ σ A S z δ' e Q k=>?_⟩
 unfold gOr at e
 cases e1:ga δ with
 | none=>rw [e1] at e; cases e
 | some p =>
  obtain ⟨b1,δ1⟩:=p
  rw [e1] at e
  refine qa Y F H δ σ A S b1 δ1 e1 _ fun F1 H1 st1 S1=>?_
  cases b1 with
  | false=>exact iteF (qb Y F1 H1 δ1 σ A S1 z δ' e Q fun F2 H2 st2 S2=>k F2 H2 (st1.trans S1 st2) S2)
  | true =>
   cases e
   exact iteT (k F1 H1 (st1.mono fun i hi=>Qf _ hi) S1)
theorem V3 (ha:TV X a ga Ma):TV X (.UnaryOp .Not a pos) (K3 ga) Ma:=by
 obtain ⟨t,p,q⟩:=ha
 refine ⟨_,pt_not p,fun Y F H δ σ A S z δ' e Q k=>?_⟩
 unfold K3 at e
 cases e1:ga δ with
 | none=>rw [e1] at e; cases e
 | some p =>
  obtain ⟨b1,δ1⟩:=p
  rw [e1] at e
  cases e
  exact q Y F H δ σ A S b1 δ1 e1 _ fun F1 H1 st1 S1=>k F1 H1 st1 S1
def Q2X (fa fb:List Sl → Option (D × List Sl)):List Sl → Option (D × List Sl):=fun δ=>(toB (fa δ)).bind fun p=>match p.1 with | true=>fb p.2 | false=>some (.bool false,p.2)
def Q5a (fa:List Sl → Option (D × List Sl)):List Sl → Option (D × List Sl):=fun δ=>(toB (fa δ)).map fun p=>(.bool (!p.1),p.2)
theorem Q2M (ha:EV X a fa Ra Ma):EV X (.BoolOp .And [a] pos) fa Ra Ma:=by
 obtain ⟨t,p,q⟩:=ha
 exact ⟨t,pe_one p,q⟩
theorem Q4f (ha:EV X a fa Ra Ma) (hb:EV X (.BoolOp .And (b :: rest) pos) fb Rb Mb):EV X (.BoolOp .And (a :: b :: rest) pos) (Q2X fa fb) Rb (Ma ++ Mb):=by
 obtain ⟨ta,pa,qa⟩:=ha
 obtain ⟨tb,pb,qb⟩:=hb
 refine ⟨_,pe_and pa pb,fun Y F H δ σ A S z δ' e Q k=>?_⟩
 unfold Q2X at e
 cases e1:toB (fa δ) with
 | none=>rw [e1] at e; cases e
 | some p =>
  obtain ⟨b1,δ1⟩:=p
  rw [e1] at e
  refine qa Y F H δ σ A S _ δ1 (Q0w e1) _ fun v F1 H1 st1 S1 r1=>?_
  refine ⟨b1,r1.bl,?_⟩
  cases b1 with
  | true=>exact iteT (qb Y F1 H1 δ1 σ A S1 z δ' e Q fun v F2 H2 st2 S2 r2=>k v F2 H2 (st1.trans S1 st2) S2 r2)
  | false =>
   cases e
   exact iteF (k _ F1 H1 (st1.mono fun i hi=>Qf _ hi) S1 (.inl (.bl _)))
theorem Q6w (ha:EV X a fa Ra Ma):EV X (.UnaryOp .Not a pos) (Q5a fa) [] Ma:=by
 obtain ⟨t,p,q⟩:=ha
 refine ⟨_,pe_not p,fun Y F H δ σ A S z δ' e Q k=>?_⟩
 unfold Q5a at e
 cases e1:toB (fa δ) with
 | none=>rw [e1] at e; cases e
 | some p =>
  obtain ⟨b1,δ1⟩:=p
  rw [e1] at e
  cases e
  exact q Y F H δ σ A S _ δ1 (Q0w e1) _ fun v F1 H1 st1 S1 r1=>⟨b1,r1.bl,k _ F1 H1 st1 S1 (.inl (.bl _))⟩
def Q4W (gc:List Sl → Option (Bool × List Sl)) (fa fb:List Sl → Option (D × List Sl)):List Sl → Option (D × List Sl):=fun δ=>(gc δ).bind fun p=>match p.1 with | true=>fa p.2 | false=>fb p.2
theorem Q8B {gc} (hc:TV X c gc Mc) (ha:EV X a fa Ra Ma) (hb:EV X b fb Rb Mb):EV X (.IfExp c a b pos) (Q4W gc fa fb) (Ra ++ Rb) (Mc ++ (Ma ++ Mb)):=by
 obtain ⟨tc,pc,qc⟩:=hc
 obtain ⟨ta,pa,qa⟩:=ha
 obtain ⟨tb,pb,qb⟩:=hb
 refine ⟨_,pe_ifExp pc pa pb,fun Y F H δ σ A S z δ' e Q k=>?_⟩
 unfold Q4W at e
 cases e1:gc δ with
 | none=>rw [e1] at e; cases e
 | some p =>
  obtain ⟨b1,δ1⟩:=p
  rw [e1] at e
  refine qc Y F H δ σ A S _ δ1 e1 _ fun F1 H1 st1 S1=>?_
  cases b1 with
  | true=>exact iteT (qa Y F1 H1 δ1 σ A S1 z δ' e Q fun v F2 H2 st2 S2 r2=>k v F2 H2 ((st1.trans S1 st2).mono fun i hi=>by
    rcases Qo.mp hi with h | h
    ·exact Qf _ h
    ·exact Qm _ (Qf _ h)) S2 (r2.mono fun i hi=>Qf _ hi))
  | false=>exact iteF (qb Y F1 H1 δ1 σ A S1 z δ' e Q fun v F2 H2 st2 S2 r2=>k v F2 H2 ((st1.trans S1 st2).mono fun i hi=>by
    rcases Qo.mp hi with h | h
    ·exact Qf _ h
    ·exact Qm _ (Qm _ h)) S2 (r2.mono fun i hi=>Qm _ hi))
theorem SR.give {K:PySem.W.Frag} {Y:Fx} {F F1 H H1:Hp} {δ δ':List Sl} {σ:L2.St} {A:Nat → List Addr} {M:List Nat} {p:Addr} {u:HO} (S:SR K Y F H δ σ A) (S1:SR K Y F1 H1 δ' σ A) (st1:Stp A M F H F1 H1) (n:H p = none) (f:F1 p = none) (hu:H1 p = some u) :
  Stp A M F H (upd F1 p u) H1 ∧ SR K Y (upd F1 p u) H1 δ' σ A ∧ Same F1 (upd F1 p u):=by
 have nA:∀ i,p ∉ A i:=fun i hi=>S.isSome hi n
 have sF:Same F1 (upd F1 p u):=fun b x e=>by rw [upd_ne (ne_of_none e f)]; exact e
 refine ⟨⟨st1.f.trans sF,fun a e1 e2=>?_,st1.kp⟩,⟨S1.len,fun i s e=>(S1.slot i s e).mono sF fun _ _=>rfl,S1.out,S1.dis,fun i a h=>?_,S1.new,fun b x e=>?_,S1.fix,S1.ioA,S1.kp,fun a e1 e2=>?_,S1.f0.trans sF,S1.lio,S1.ob,S1.vno⟩,sF⟩
 ·by_cases c:a = p
  ·subst c; exact n
  ·rw [upd_ne c] at e2; exact st1.nw a e1 e2
 ·rw [upd_ne (fun c=>by subst c; exact nA i h)]; exact S1.hid i a h
 ·by_cases c:b = p
  ·subst c; rw [upd_same] at e; cases e; exact hu
  ·rw [upd_ne c] at e; exact S1.sub _ _ e
 ·by_cases c:a = p
  ·subst c
   cases e3:Y.H0 a with
   | none=>rfl
   | some x =>
    by_cases c2:∃ i,Y.lt i = true ∧ a ∈ Y.A0 i
    ·obtain ⟨i,hi,hA⟩:=c2
     rw [← (S.fix i hi).2] at hA
     exact absurd hA (nA i)
    ·have:=S.kp a x e3 fun i hi z=>c2 ⟨i,hi,z⟩
     rw [n] at this
     cases this
  ·rw [upd_ne c] at e2; exact S1.nw a e1 e2
theorem SR.fresh1 {K:PySem.W.Frag} {Y:Fx} {F H:Hp} {δ:List Sl} {σ:L2.St} {A:Nat → List Addr} (S:SR K Y F H δ σ A) {p:Addr} (n:H p = none):Y.H0 p = none:=by
 cases e3:Y.H0 p with
 | none=>rfl
 | some x =>
  by_cases c2:∃ i,Y.lt i = true ∧ p ∈ Y.A0 i
  ·obtain ⟨i,hi,hA⟩:=c2
   rw [← (S.fix i hi).2] at hA
   exact absurd n (S.isSome hA)
  ·have:=S.kp p x e3 fun i hi z=>c2 ⟨i,hi,z⟩
   rw [n] at this
   cases this
theorem Q5T {K:PySem.W.Frag} {Y:Fx} {F F1 H H1:Hp} {δ δ':List Sl} {σ:L2.St} {A:Nat → List Addr} {M:List Nat} {p:Addr} {ds:List (D × D)} (S:SR K Y F H δ σ A) (S1:SR K Y F1 H1 δ' σ A) (st1:Stp A M F H F1 H1) (n:H p = none) (f:F1 p = none) (o:K8 K F1 H1 p (.dict ds)) :
  ∃ u,H1 p = some u ∧ Mut (some u) ∧ ∀ od,Stp A M F H F1 (upd H1 p (.frz od u)) ∧ SR K Y F1 (upd H1 p (.frz od u)) δ' σ A ∧ Q2w K F1 (upd H1 p (.frz od u)) p (.dict ds):=by
 obtain ⟨kvs,h1,h2⟩:=o
 have nA:∀ i,p ∉ A i:=fun i hi=>S.isSome hi n
 refine ⟨_,h1,trivial,fun od=>⟨⟨st1.f,st1.nw,fun a x e hx=>?_⟩,S1.upd_free f nA (S.fresh1 n),od,kvs,upd_same,h2⟩⟩
 rw [upd_ne (ne_of_none e n)]
 exact st1.kp a x e hx
theorem NV.ev (h:NV X a fa Ma):EV X a fa [] Ma:=by
 obtain ⟨t,p,q⟩:=h
 refine ⟨_,Q8F p (Q5r p),fun Y F H δ σ A S z δ' e Q k=>?_⟩
 cases z with
 | dict ds =>
  refine .inr (q Y F H δ σ A S _ δ' e _ fun p F1 H1 st1 S1 n f o=>?_)
  obtain ⟨u,hu,mu,w⟩:=Q5T S S1 st1 n f o
  refine ⟨p,u,rfl,hu,mu,fun od=>?_⟩
  obtain ⟨st2,S2,o2⟩:=w od
  obtain ⟨st3,S3,sF⟩:=SR.give S S2 st2 n f upd_same
  exact k _ _ _ st3 S3 (.inl (Q6c o2 sF (by rw [upd_same,upd_same])))
 | list ds =>
  refine .inl (q Y F H δ σ A S _ δ' e _ fun p F1 H1 st1 S1 n f o=>?_)
  obtain ⟨xs,hu,o2⟩:=id o
  obtain ⟨st3,S3,sF⟩:=SR.give S S1 st1 n f hu
  exact k _ _ _ st3 S3 (.inl (Q6c (d:=.list ds) ⟨xs,hu,o2⟩ sF (by rw [upd_same,hu])))
 | _=>exact .inl (q Y F H δ σ A S _ δ' e _ fun p F1 H1 st1 S1 n f o=>o.elim)
end
def Jt:List Sl → Option (List D × List Sl):=fun δ=>some ([],δ)
def Ji (fa:List Sl → Option (D × List Sl)) (fr:List Sl → Option (List D × List Sl)):List Sl → Option (List D × List Sl):=fun δ=>(fa δ).bind fun p=>(fr p.2).map fun q=>(p.1 :: q.1,q.2)
theorem Jm:AV X [] Jt [] []:=by
 refine ⟨_,pa_nil,fun Y F H δ σ A S d' δ' e Q k=>?_⟩
 cases e
 exact k _ _ _ Stp.refl S trivial
theorem Q1P {fa fr} {δ δ':List Sl} {ds:List D} (h:Ji fa fr δ = some (ds,δ')):∃ d δ1 r,fa δ = some (d,δ1) ∧ fr δ1 = some (r,δ') ∧ ds = d :: r:=by
 unfold Ji at h
 cases e1:fa δ with
 | none=>rw [e1] at h; cases h
 | some p =>
  obtain ⟨d,δ1⟩:=p
  rw [e1] at h
  simp only [Q1] at h
  cases e2:fr δ1 with
  | none=>rw [e2] at h; cases h
  | some q =>
   obtain ⟨e,δ2⟩:=q
   rw [e2] at h
   cases h
   exact ⟨d,δ1,e,rfl,e2,rfl⟩
theorem Jd {a:Expr} {es:List Expr} {fa fr} {Ra Rr Ma Mr:List Nat} (ha:EV X a fa Ra Ma) (hr:AV X es fr Rr Mr) (dj:∀ i ∈ Ra,i ∉ Mr:=by decide) (hs:starEach (a :: es) X.env = (false,eval a X.env) :: starEach es X.env:=by rfl):AV X (a :: es) (Ji fa fr) (Ra ++ Rr) (Ma ++ Mr):=by
 obtain ⟨ta,pa,qa⟩:=ha
 obtain ⟨tb,pb,qb⟩:=hr
 refine ⟨_,pa_cons pa pb hs,fun Y F H δ σ A S ds δ' e Q k=>?_⟩
 obtain ⟨d,δ1,r,e1,e2,rfl⟩:=Q1P e
 refine qa Y F H δ σ A S d δ1 e1 _ fun x F1 H1 st1 S1 r1=>?_
 refine qb Y F1 H1 δ1 σ A S1 r δ' e2 _ fun y F2 H2 st2 S2 r2=>?_
 exact k _ F2 H2 (st1.trans S1 st2) S2 ⟨(r1.step S1 st2 dj).mono fun i hi=>Qf _ hi,r2.mono fun i hi=>Qm _ hi⟩
def Xo (f:List Sl → Option (List D × List Sl)):List Sl → Option (D × List Sl):=fun δ=>(f δ).bind fun p=>if p.1.length ≤ sizeLine then some (.tuple p.1,p.2) else none
def Vi (f:List Sl → Option (List D × List Sl)):List Sl → Option (D × List Sl):=fun δ=>(f δ).bind fun p=>if p.1.length ≤ sizeLine then some (.list p.1,p.2) else none
theorem Jy {es:List Expr} {f} {M:List Nat} {x1} (h:AV X es f [] M):EV X (.Tuple es x1 pos) (Xo f) [] M:=by
 obtain ⟨t,p,q⟩:=h
 refine ⟨_,pe_tup p,fun Y F H δ σ A S d δ' e Q k=>?_⟩
 unfold Xo at e
 cases e1:f δ with
 | none=>rw [e1] at e; cases e
 | some p =>
  obtain ⟨ds,δ1⟩:=p
  rw [e1] at e
  simp only [Q1] at e
  split at e
  ·rename_i hz
   cases e
   refine q Y F H δ σ A S ds δ' e1 _ fun vs F1 H1 st S1 r=>?_
   have r:=r.nil
   refine ⟨by rw [r.length]; exact hz,fun p hp=>?_⟩
   exact k _ (upd F1 p (.tup vs)) (upd H1 p (.tup vs)) (Yo S1 st (Stp.laid S1 hp)) (S1.laid hp) (.inl (.tup (.inl (.inl upd_same)) (r.mono (Stp.laid (M:=[]) S1 hp).f)))
  ·cases e
theorem Xw {es:List Expr} {f} {M:List Nat} (h:AV X es f [] M):NV X (.List es pos) (Vi f) M:=by
 obtain ⟨t,p,q⟩:=h
 refine ⟨_,pe_lst p,fun Y F H δ σ A S d δ' e Q k=>?_⟩
 unfold Vi at e
 cases e1:f δ with
 | none=>rw [e1] at e; cases e
 | some p =>
  obtain ⟨ds,δ1⟩:=p
  rw [e1] at e
  simp only [Q1] at e
  split at e
  ·rename_i hz
   cases e
   refine q Y F H δ σ A S ds δ' e1 _ fun vs F1 H1 st S1 r=>?_
   have r:=r.nil
   refine ⟨by rw [r.length]; exact hz,fun p hp=>?_⟩
   refine k p F1 (upd H1 p (.lst vs)) (Yo S1 st (Stp.laidO hp)) (S1.laidO hp) ?_ (S1.sub.free hp) ⟨vs,upd_same,r⟩
   cases e5:H p with
   | none=>rfl
   | some o =>
    by_cases c:∃ i,p ∈ A i
    ·obtain ⟨i,hi⟩:=c
     exact absurd hp (S1.isSome hi)
    ·have:=st.kp p o e5 fun i _ hi=>c ⟨i,hi⟩
     rw [hp] at this
     cases this
  ·cases e
end
end Z
namespace Z
open PySem PySem.Spec PyProof.Rows L2
section
variable {X:Cx} {pins:List (Addr × Obj)} {σ:L2.St} {H G:Hp} {s:Shared}
theorem Q1V {h:Heap} {k:Key} {u:Value} (e:keyIs k u = true):Reads h u (Q2d k) []:=by
 rcases keyIs_shape e with ⟨i,t,rfl,rfl⟩ | ⟨x,t,rfl,rfl⟩
 ·exact .int i t
 ·exact .str x t
mutual
theorem Rp.reads (I:Inv X pins σ H s) (g:Same G H):∀ (d:D) (v:V) (u:Value),Rp X.K G v d → RelV v u → ∃ as,Reads s.heap u d as
 | .none,_,_,h,r=>by
  cases h
  cases r
  exact ⟨_,Reads.none⟩
 | .bool b,_,_,h,r=>by
  cases h
  cases r
  exact ⟨_,Reads.bool b⟩
 | .int i,_,_,h,r=>by
  cases h
  obtain ⟨t,rfl⟩:=r
  exact ⟨_,Reads.int i t⟩
 | .str x,_,_,h,r=>by
  cases h
  obtain ⟨t,rfl⟩:=r
  exact ⟨_,Reads.str x t⟩
 | .list ds,_,_,h,r=>by
  cases h with
  | lst hs ha =>
   rename_i p xs
   cases r
   obtain ⟨its,rv,⟨o,n,ho,hc,_,hd⟩,_⟩:=I.list (SqL.of (g _ _ hs))
   obtain ⟨as,hr⟩:=Rp.readsAll I g ds _ its ha rv
   exact ⟨_,Reads.list ho hc hd hr⟩
 | .tuple ds,_,_,h,r=>by
  cases h with
  | tup hs ha =>
   cases r
   obtain ⟨its,rv,⟨o,ho,hc,n,hd⟩,_⟩:=I.tuple (Same.sqt g hs)
   obtain ⟨as,hr⟩:=Rp.readsAll I g ds _ its ha rv
   exact ⟨_,Reads.tuple ho hc hd hr⟩
 | .dict ds,_,_,h,r=>by
  cases h with
  | dic hs ha =>
   cases r
   obtain ⟨_,_,hsm,vs,rel,o,es,ep,ho,hx,hdat,_,hp,_⟩:=I.hok _ _ (g _ _ hs)
   obtain ⟨bs,h1,h2⟩:=Rp.readsKv I g ds _ vs es.toList ha rel hp
   exact ⟨_,Reads.dict ho hx.1 hdat h1 h2⟩
theorem Rp.readsAll (I:Inv X pins σ H s) (g:Same G H):∀ (ds:List D) (vs:List V) (us:List Value),Rps X.K G vs ds → Vals vs us → ∃ as,ReadsAll s.heap us ds as
 | [],_,_,h,r=>by
  cases h
  cases r
  exact ⟨_,ReadsAll.nil⟩
 | d :: ds,_,_,h,r=>by
  cases h with
  | cons h1 h2 =>
   cases r with
   | cons r1 r2 =>
    obtain ⟨as,q1⟩:=Rp.reads I g d _ _ h1 r1
    obtain ⟨bs,q2⟩:=Rp.readsAll I g ds _ _ h2 r2
    exact ⟨_,ReadsAll.cons q1 q2⟩
theorem Rp.readsKv (I:Inv X pins σ H s) (g:Same G H):∀ (ds:List (D × D)) (kvs:List (Key × V)) (vs:List (Key × Value)) (es:List DictEntry),RpK X.K G kvs ds → KV kvs vs → Pairs (mixKind X.prog X.w) es vs →
  ∃ bs,ReadsAll s.heap (es.map (·.key)) (ds.map (·.1)) [] ∧ ReadsAll s.heap (es.map (·.val)) (ds.map (·.2)) bs
 | [],_,_,_,h,r,p=>by
  cases h
  cases r
  cases p
  exact ⟨_,ReadsAll.nil,ReadsAll.nil⟩
 | (dk,dv) :: ds,_,_,_,h,r,p=>by
  cases h with
  | cons h1 h2 =>
   cases r with
   | cons r1 r2 =>
    rename_i q vs'
    obtain ⟨k',u⟩:=q
    obtain ⟨e1,r1⟩:=r1
    simp only at e1
    subst e1
    cases p with
    | cons p1 p2 p3 =>
     obtain ⟨as,q1⟩:=Rp.reads I g dv _ _ h1 r1
     obtain ⟨bs,q2,q3⟩:=Rp.readsKv I g ds _ _ _ h2 r2 p3
     refine ⟨as ++ bs,?_,?_⟩
     ·exact ReadsAll.cons (as:=[]) (bs:=[]) (Q1V p1) q2
     ·rw [Qp,p2]
      exact ReadsAll.cons q1 q3
end
end
section
variable {X:Cx}
def Q4k:D → D → Option D
 | .int a,.int b=>some (.int (a + b))
 | .str a,.str b=>if a.length + b.length ≤ sizeLine then some (.str (a ++ b)) else none
 | .tuple a,.tuple b=>if a.length + b.length ≤ sizeLine then some (.tuple (a ++ b)) else none
 | _,_=>none
def Q92:D → D → Option D
 | .list a,.list b=>if a.length + b.length ≤ sizeLine then some (.list (a ++ b)) else none
 | _,_=>none
def Q3J:D → D → Option D
 | .int a,.int b=>some (.int (a - b))
 | _,_=>none
def Q1v (i:Int):Bool:=decide (-(2 ^ 64) < i) && decide (i < 2 ^ 64)
def Q4j:D → D → Option D
 | .int a,.int b=>if Q1v a || Q1v b then some (.int (a * b)) else none
 | .tuple xs,.int k=>if (!xs.isEmpty) && decide (-1000 ≤ k) && decide (k ≤ 1000) && decide (xs.length ≤ 1000) then some (.tuple (Qs k.toNat xs).flatten) else none
 | _,_=>none
def Q8k:D → D → Option D
 | .list xs,.int k=>if decide (0 ≤ k) && decide (k < 2 ^ 62) && decide (xs.length * k.toNat ≤ sizeLine) then some (.list (Qs k.toNat xs).flatten) else none
 | _,_=>none
def Zk:D → D → Option D
 | .int a,.int b=>if decide (0 < b) && decide (b < 1073741824) then some (.int (a / b)) else none
 | _,_=>none
def Yq:D → D → Option D
 | .int a,.int b=>if 0 < b then some (.int (a % b)) else none
 | _,_=>none
def Q28:D → D → Option D
 | .int a,.int b=>if decide (0 ≤ b) && decide (b ≤ 1000000) && decide (a.natAbs < 2 ^ 64) then some (.int (a ^ b.toNat)) else none
 | _,_=>none
def Q6u (K:PySem.W.Frag):R2:=fun x y H Q=>rI0 (fun i j=>.int (i + j)) x y H Q ∨ (∃ i j,x = .str i ∧ y = .str j ∧ i.length + j.length ≤ sizeLine ∧ Q (.str (i ++ j)) H) ∨ rCatA K x y H Q
theorem Q7f:OpR X (binaryOp .Add) (Q6u X.K):=op_add.or (op_add_str.or op_catA)
theorem Q8Q:OpS X (Q6u X.K) Q4k:=by
 intro Y F H δ σ A R x y d e z S rx ry hg Q k
 cases d with
 | int i =>
  cases e with
  | int j =>
   cases hg
   rw [rx.int,ry.int]
   exact .inl ⟨i,j,rfl,rfl,k _ F H Stp.refl S (.int _)⟩
  | _=>cases hg
 | str i =>
  cases e with
  | str j =>
   simp only [Q4k] at hg
   split at hg
   ·rename_i hz
    cases hg
    rw [rx.str,ry.str]
    exact .inr (.inl ⟨i,j,rfl,rfl,hz,k _ F H Stp.refl S (.str _)⟩)
   ·cases hg
  | _=>cases hg
 | tuple i =>
  cases e with
  | tuple j =>
   simp only [Q4k] at hg
   split at hg
   ·rename_i hz
    cases hg
    obtain ⟨a,xs,rfl,h0,h1,r1⟩:=rx.tup S
    obtain ⟨b,ys,rfl,h3,h2,r2⟩:=ry.tup S
    refine .inr (.inr ⟨a,b,xs,ys,rfl,rfl,h1,h2,by rw [r1.length,r2.length]; exact hz,fun e0=>?_,fun n1 e0=>?_,fun n1 n2 p hp=>?_⟩)
    ·subst e0
     cases r1
     exact k _ F H Stp.refl S (.tup h3 r2)
    ·subst e0
     cases r2
     rw [Qx] at k
     exact k _ F H Stp.refl S (.tup h0 r1)
    ·exact k _ _ _ (Stp.laid S hp) (S.laid hp) (.tup (.inl (.inl upd_same)) ((r1.append r2).mono (Stp.laid (M:=[]) S hp).f))
   ·cases hg
  | _=>cases hg
 | _=>cases hg
theorem Rps.rep {K:PySem.W.Frag} {G:Hp} {xs:List V} {ds:List D} (h:Rps K G xs ds):∀ k:Nat,Rps K G (Qs k xs).flatten (Qs k ds).flatten
 | 0=>.nil
 | k + 1=>by
  rw [List.replicate_succ,List.flatten_cons,List.replicate_succ,List.flatten_cons]
  exact h.append (h.rep k)
theorem Q16:OpS X (rI0 fun i j=>.int (i - j)) Q3J:=by
 intro Y F H δ σ A R x y d e z S rx ry hg Q k
 cases d with
 | int i =>
  cases e with
  | int j =>
   cases hg
   rw [rx.int,ry.int]
   exact ⟨i,j,rfl,rfl,k _ F H Stp.refl S (.int _)⟩
  | _=>cases hg
 | _=>cases hg
theorem Q2S:OpS X (rI CDiv fun i j=>.int (i / j)) Zk:=by
 intro Y F H δ σ A R x y d e z S rx ry hg Q k
 cases d with
 | int i =>
  cases e with
  | int j =>
   simp only [Zk] at hg
   split at hg
   ·rename_i hz
    cases hg
    simp only [Q3,decide_eq_true_eq] at hz
    rw [rx.int,ry.int]
    exact ⟨i,j,rfl,rfl,hz,k _ F H Stp.refl S (.int _)⟩
   ·cases hg
  | _=>cases hg
 | _=>cases hg
theorem Yk:OpS X (rI (fun _ j=>0 < j) fun i j=>.int (i % j)) Yq:=by
 intro Y F H δ σ A R x y d e z S rx ry hg Q k
 cases d with
 | int i =>
  cases e with
  | int j =>
   simp only [Yq] at hg
   split at hg
   ·rename_i hz
    cases hg
    rw [rx.int,ry.int]
    exact ⟨i,j,rfl,rfl,hz,k _ F H Stp.refl S (.int _)⟩
   ·cases hg
  | _=>cases hg
 | _=>cases hg
theorem Q48:OpS X (rI CPow fun i j=>.int (i ^ j.toNat)) Q28:=by
 intro Y F H δ σ A R x y d e z S rx ry hg Q k
 cases d with
 | int i =>
  cases e with
  | int j =>
   simp only [Q28] at hg
   split at hg
   ·rename_i hz
    cases hg
    simp only [Q3,decide_eq_true_eq] at hz
    rw [rx.int,ry.int]
    exact ⟨i,j,rfl,rfl,⟨hz.1.1,hz.1.2,hz.2⟩,k _ F H Stp.refl S (.int _)⟩
   ·cases hg
  | _=>cases hg
 | _=>cases hg
end
end Z
namespace Z
open PySem PySem.Spec PyProof.Rows L2
theorem Q9X (l:Addr) (items:Array Value) (n:Nat) (sl:Array (Option Value)) (dd:Option Addr) (u:Tok) :
  Meets (Builtin.«tuple.__mul__» ⟨[.ref l,.int 1 u],[]⟩) (fun _ R s=>s.heap.get? l = some { cls:=.type "tuple",dict:=dd,data:=.seq items n,slots:=sl } ∧
   R (.ok (.ret (Value.ref l))) s) :=
 .of_wp fun prog w A R s h=>by
  obtain ⟨hp,g,d,tk,os⟩:=s
  obtain ⟨hl,h⟩:=h
  have f1:=AutoSeq1.idx_int
  have c0:(decide ((1:Int) < -(2 ^ 63)) || decide ((1:Int) ≥ 2 ^ 63)) = false:=by decide
  have c1:(items.isEmpty || ((1:Int) == 1)) = true:=by simp
  wp_walk using wpAny_loadPart' hl
  repeat (first
   | (refine wpAny_ite_false (decide_eq_false (by rw [c0]; exact Bool.false_ne_true)) ?_; wp_walk using wpAny_loadPart' hl)
   | (refine wpAny_ite_true (decide_eq_true c1) ?_; wp_walk using wpAny_loadPart' hl))
  exact ⟨_,rfl,h⟩
theorem Q9L (l:Addr) (items:Array Value) (n:Nat) (sl:Array (Option Value)) (dd:Option Addr) (x:Int) (u:Tok) (hx:x ≤ 0) (hx2:-(2 ^ 63) ≤ x) (hne:items.isEmpty = false) :
  Meets (Builtin.«tuple.__mul__» ⟨[.ref l,.int x u],[]⟩) (fun _ R s=>s.heap.get? l = some { cls:=.type "tuple",dict:=dd,data:=.seq items n,slots:=sl } ∧
   R (.ok (.ret (Value.ref s.heap.objs.size))) { s with heap:=s.heap.push { cls:=Value.type "tuple",data:=Data.seq #[] },toks:=s.toks }) :=
 .of_wp fun prog w A R s h=>by
  obtain ⟨hp,g,d,tk,os⟩:=s
  obtain ⟨hl,h⟩:=h
  have f1:=AutoSeq1.idx_int
  have c0:(decide (x < -(2 ^ 63)) || decide (x ≥ 2 ^ 63)) = false:=by
   rw [decide_eq_false (by omega),decide_eq_false (by omega)] <;> rfl
  have c1:(items.isEmpty || x == 1) = false:=by
   rw [hne,Bool.false_or]
   exact beq_eq_false_iff_ne.mpr (by omega)
  have c2:(decide (x ≤ 0) || items.isEmpty) = true:=by
   rw [decide_eq_true hx]
   rfl
  wp_walk using wpAny_loadPart' hl
  repeat (first
   | (refine wpAny_ite_false (decide_eq_false (by rw [c0]; exact Bool.false_ne_true)) ?_; wp_walk using wpAny_loadPart' hl)
   | (refine wpAny_ite_false (decide_eq_false (by rw [c1]; exact Bool.false_ne_true)) ?_; wp_walk using wpAny_loadPart' hl)
   | (refine wpAny_ite_true (decide_eq_true c2) ?_; wp_walk using wpAny_loadPart' hl))
  exact ⟨_,rfl,h⟩
section
variable {X:Cx}
def Q88 (K:PySem.W.Frag):R2:=fun x y H Q=>∃ l k xs,x = .ref l ∧ y = .int k ∧ SqT K H l xs ∧ xs ≠ [] ∧ -1000 ≤ k ∧ k ≤ 1000 ∧ xs.length ≤ 1000 ∧ (k = 1 → Q (.ref l) H) ∧ (k ≠ 1 → ∀ p,H p = none → Q (.ref p) (upd H p (.tup (Qs k.toNat xs).flatten)))
theorem Q7l:OpR X (binaryOp .Mult) (Q88 X.K):=by
 intro pins s σ H x y v u Q I rx ry h
 obtain ⟨l,k,xs,rfl,rfl,hT,hne,h1,h2,hz,q1,q2⟩:=h
 by_cases hk:2 ≤ k
 ·exact op_repT pins s σ H _ _ v u Q I rx ry ⟨l,k,xs,rfl,rfl,hT,hne,hk,h2,hz,q2 (by omega)⟩
 ·cases rx
  obtain ⟨t,rfl⟩:=ry
  obtain ⟨its,r,⟨⟨cls,dd,data,sl⟩,ho,hc,n,hd⟩,hs⟩:=I.tuple hT
  simp only at hc hd
  subst hc hd
  have hi:its.toArray.isEmpty = false:=by
   cases its with
   | nil =>
    cases r
    exact absurd rfl hne
   | cons a b=>rfl
  by_cases hk1:k = 1
  ·subst hk1
   refine wpAny_binaryOp_repeat_ref (T := "tuple") (U := "int") (by decide) ⟨_,ho,rfl⟩ (fun s'=>typeIs_int s' 1 t) noFill_tuple_mul F.fills_int_mul F.slot_int_rmul repeat_tuple F.slot_int_index.lookup
    (call_meets F.slot_int_rmul (typeIs_int s 1 t) F.entry_int_rmul (F.args_int_rmul_2 _ _) (int_rmul_tuple 1 t l its.toArray n dd sl)
     ⟨ho,rfl,⟨_,ho,rfl⟩,call_meets F.slot_tuple_mul ⟨_,ho,rfl⟩ F.entry_tuple_mul (F.args_tuple_mul_2 _ _) (Q9X l its.toArray n sl dd t) ⟨ho,?_⟩⟩)
   exact ⟨.ref l,H,I,rfl,q1 rfl⟩
  ·refine wpAny_binaryOp_repeat_ref (T := "tuple") (U := "int") (by decide) ⟨_,ho,rfl⟩ (fun s'=>typeIs_int s' k t) noFill_tuple_mul F.fills_int_mul F.slot_int_rmul repeat_tuple F.slot_int_index.lookup
    (call_meets F.slot_int_rmul (typeIs_int s k t) F.entry_int_rmul (F.args_int_rmul_2 _ _) (int_rmul_tuple k t l its.toArray n dd sl)
     ⟨ho,rfl,⟨_,ho,rfl⟩,call_meets F.slot_tuple_mul ⟨_,ho,rfl⟩ F.entry_tuple_mul (F.args_tuple_mul_2 _ _) (Q9L l its.toArray n sl dd k t (by omega) (by omega) hi) ⟨ho,?_⟩⟩)
   have e0:(Qs k.toNat xs).flatten = []:=by
    rw [show k.toNat = 0 by omega]
    rfl
   have q:=q2 hk1
   rw [e0] at q
   exact ⟨.ref s.heap.objs.size,_,I.laid (t':=s.toks) (o:=.tup []) (fun b ob q=>Heap.get?_push_of_some _ q) (Q5 _) ⟨J3 _,[],.nil,IsTup.new _ _⟩,rfl,q _ (I.hok.fresh (Q5 _))⟩
def Q6C (K:PySem.W.Frag):R2:=fun x y H Q=>rI CMul (fun i j=>.int (i * j)) x y H Q ∨ Q88 K x y H Q
theorem Q6T:OpR X (binaryOp .Mult) (Q6C X.K):=op_mul.or Q7l
theorem Q8x:OpS X (Q6C X.K) Q4j:=by
 intro Y F H δ σ A R x y d e z S rx ry hg Q k
 cases d with
 | int i =>
  cases e with
  | int j =>
   simp only [Q4j] at hg
   split at hg
   ·rename_i hz
    cases hg
    rw [rx.int,ry.int]
    refine .inl ⟨i,j,rfl,rfl,?_,k _ F H Stp.refl S (.int _)⟩
    simp only [Q1v,Bool.or_eq_true,Q3,decide_eq_true_eq] at hz
    exact hz
   ·cases hg
  | _=>cases hg
 | tuple i =>
  cases e with
  | int j =>
   simp only [Q4j] at hg
   split at hg
   ·rename_i hz
    cases hg
    simp only [Q3,decide_eq_true_eq,Bool.not_eq_true'] at hz
    obtain ⟨⟨⟨z1,z0⟩,z2⟩,z3⟩:=hz
    obtain ⟨a,xs,rfl,h0,h1,r1⟩:=rx.tup S
    rw [ry.int]
    refine .inr ⟨a,j,xs,rfl,rfl,h1,?_,z0,z2,by rw [r1.length]; exact z3,fun e1=>?_,fun e1 p hp=>?_⟩
    ·intro e0
     subst e0
     cases r1
     cases z1
    ·subst e1
     exact k _ F H Stp.refl S (.tup h0 (by simpa using r1))
    ·exact k _ _ _ (Stp.laid S hp) (S.laid hp) (.tup (.inl (.inl upd_same)) ((r1.rep _).mono (Stp.laid (M:=[]) S hp).f))
   ·cases hg
  | _=>cases hg
 | _=>cases hg
end
end Z
namespace Z
open PySem PySem.Spec PyProof.Rows L2
theorem DGet.f {H:Hp} {a:Addr} {o:Obj} {kvs:List (Key × V)} {k:Key} (e:H a = some (.frz o (.dK kvs))):DGet H a (kV k) (valV kvs k):=.inl ⟨kvs,k,.inr ⟨o,e⟩,rfl,rfl⟩
def keyOf:D → Option Key
 | .int i=>some (.inl i)
 | .str s=>some (.inr s)
 | _=>none
theorem Wd (k:Key):keyOf (Q2d k) = some k:=by cases k <;> rfl
def Q1l (ds:List (D × D)) (k:Key):Option D:=(ds.find? fun p=>decide (keyOf p.1 = some k)).map (·.2)
theorem RpK.val {K:PySem.W.Frag} {G:Hp}:∀ {kvs:List (Key × V)} {ds:List (D × D)} (k:Key),RpK K G kvs ds → (valV kvs k = none ∧ Q1l ds k = none) ∨ ∃ v d,valV kvs k = some v ∧ Q1l ds k = some d ∧ Rp K G v d
 | _,_,_,.nil=>.inl ⟨rfl,rfl⟩
 | _,_,k,.cons (k:=k0) (v:=v0) (r:=r0) (d:=d0) (ds:=ds0) h r=>by
  by_cases e:k0 = k
  ·refine .inr ⟨_,_,valV_pos e,?_,h⟩
   unfold Q1l
   rw [List.find?_cons_of_pos (by rw [Wd,e]; simp)]
   rfl
  ·have e1:Q1l ((Q2d k0,d0) :: ds0) k = Q1l ds0 k:=by
    unfold Q1l
    rw [List.find?_cons_of_neg (by rw [Wd]; simpa using e)]
   rw [valV_neg (p:=(k0,v0)) e,e1]
   exact r.val k
def shp (d:D):Bool:=d.plain && decide (d.depth ≤ 64)
def eqD (d e:D):Option Bool:=if shp d && shp e then some (Jb d e) else none
def neD (d e:D):Option Bool:=(eqD d e).map (!·)
def ltD:D → D → Option Bool
 | .int a,.int b=>some (decide (a < b))
 | .tuple a,.tuple b=>if PySem.W.alike (.tuple a) (.tuple b) && decide ((PyData.tuple a).depth ≤ 64) then some (PySem.W.dataLt (.tuple a) (.tuple b)) else none
 | _,_=>none
def leD:D → D → Option Bool
 | .int a,.int b=>some (decide (a ≤ b))
 | _,_=>none
def geD:D → D → Option Bool
 | .int a,.int b=>some (decide (b ≤ a))
 | _,_=>none
def inD (d:D):D → Option Bool
 | .list ds=>if shp d && shp (.list ds) then some (ds.any fun z=>Jb z d) else none
 | .tuple ds=>if shp d && shp (.tuple ds) then some (ds.any fun z=>Jb z d) else none
 | .dict ds=>(keyOf d).map fun k=>(Q1l ds k).isSome
 | .str z=>match d with
  | .str x=>some (!(Builtin.Str.occurrences z x 0 z.length 1).isEmpty)
  | _=>none
 | _=>none
def Q2I (d e:D):Option Bool:=(inD d e).map (!·)
def Qa4:D → Bool
 | .none=>true
 | _=>false
def isD (d:D):D → Option Bool
 | .none=>some (Qa4 d)
 | .bool b=>match d with
  | .bool a=>some (decide (a = b))
  | _=>none
 | _=>none
def Q42 (d e:D):Option Bool:=(isD d e).map (!·)
section
variable {X:Cx}
def Q1j (X:Cx) (op:CmpOp) (g:D → D → Option Bool):Prop :=
 ∀ (pins:List (Addr × Obj)) (s:Shared) (σ:L2.St) (H:Hp) (x y:V) (v u:Value) (Q:VK),L2.Inv X pins σ H s → RelV x v → RelV y u → ∀ (G:Hp) (d e:D) (b:Bool),Same G H → Rp X.K G x d → Rp X.K G y e → g d e = some b → Q (.bl b) H →
  wpAny (model X.prog X.w) X.A (compareOp op v u) (EP X pins σ Q) X.xe s
def Q8a (X:Cx) (g:D → D → Option Bool):R2:=fun x y H Q=>∃ G d e b,Same G H ∧ Rp X.K G x d ∧ Rp X.K G y e ∧ g d e = some b ∧ Q (.bl b) H
def bD (g:D → D → Option Bool):D → D → Option D:=fun d e=>(g d e).map Q4
theorem Q1j.op {op:CmpOp} {g} (h:Q1j X op g):OpR X (compareOp op) (Q8a X g):=by
 intro pins s σ H x y v u Q I rx ry q
 obtain ⟨G,d,e,b,sG,r1,r2,hg,q⟩:=q
 exact h pins s σ H x y v u Q I rx ry G d e b sG r1 r2 hg q
theorem Xn {g}:OpS X (Q8a X g) (bD g):=by
 intro Y F H δ σ A R x y d e z S rx ry hg Q k
 unfold bD at hg
 cases e1:g d e with
 | none=>rw [e1] at hg; cases hg
 | some b =>
  rw [e1] at hg
  cases hg
  exact ⟨_,d,e,b,Q06 S,rx.ex S,ry.ex S,e1,k _ F H Stp.refl S (.bl _)⟩
theorem Yh {d:D} (h:shp d = true):d.plain = true:=by
 unfold shp at h
 rw [Q3] at h
 exact h.1
theorem Wb {d:D} (h:shp d = true):d.depth ≤ 64:=by
 unfold shp at h
 rw [Q3,decide_eq_true_eq] at h
 exact h.2
theorem Q2s {ds:List D} (h:shp (.list ds) = true):PyData.plainAll ds = true:=Yh h
theorem Q1E {ds:List D} (h:shp (.tuple ds) = true):PyData.plainAll ds = true:=Yh h
theorem K4 (hu:X.A.units + 65 < cLine):Q1j X .Eq eqD:=by
 intro pins s σ H x y v u Q I rx ry G d e b sG r1 r2 hg q
 unfold eqD at hg
 split at hg
 ·rename_i c
  cases hg
  rw [Q3] at c
  obtain ⟨as,q1⟩:=Rp.reads I sG d x v r1 rx
  obtain ⟨bs,q2⟩:=Rp.reads I sG e y u r2 ry
  exact SeqAt.eq_plain q1 q2 (Yh c.1) (Yh c.2) (by have:=Wb c.1; have:min d.depth e.depth ≤ d.depth:=Nat.min_le_left _ _; omega) ⟨.bl _,H,I,rfl,q⟩
 ·cases hg
theorem Q1f (hu:X.A.units + 65 < cLine):Q1j X .NotEq neD:=by
 intro pins s σ H x y v u Q I rx ry G d e b sG r1 r2 hg q
 unfold neD eqD at hg
 split at hg
 ·rename_i c
  cases hg
  rw [Q3] at c
  obtain ⟨as,q1⟩:=Rp.reads I sG d x v r1 rx
  obtain ⟨bs,q2⟩:=Rp.reads I sG e y u r2 ry
  exact SeqAt.ne_plain q1 q2 (Yh c.1) (Yh c.2) (by have:=Wb c.1; have:min d.depth e.depth ≤ d.depth:=Nat.min_le_left _ _; omega) ⟨.bl _,H,I,rfl,q⟩
 ·cases hg
theorem Q9y:Q1j X .GtE geD:=by
 intro pins s σ H x y v u Q I rx ry G d e b sG r1 r2 hg q
 unfold geD at hg
 split at hg
 ·cases hg
  cases r1
  cases r2
  exact op_ge pins s σ H _ _ v u Q I rx ry ⟨_,_,rfl,rfl,q⟩
 ·cases hg
theorem Q2F {K:PySem.W.Frag} {G:Hp} {x:V} {d:D} {k:Key} (h:keyOf d = some k) (r:Rp K G x d):x = kV k:=by
 cases r with
 | int i=>cases h; rfl
 | str i=>cases h; rfl
 | _=>cases h
theorem cd_in (hu:X.A.units + 65 < cLine):Q1j X .In inD:=by
 intro pins s σ H x y v u Q I rx ry G d e b sG r1 r2 hg q
 obtain ⟨as,q1⟩:=Rp.reads I sG d x v r1 rx
 unfold inD at hg
 split at hg
 ·split at hg
  ·rename_i ds c
   cases hg
   rw [Q3] at c
   obtain ⟨bs,q2⟩:=Rp.reads I sG (.list ds) y u r2 ry
   exact SeqAt.in_list_data q2 q1 (Q2s c.2) (Yh c.1) (by have:=Wb c.1; have:min (Qr ds) d.depth ≤ d.depth:=Nat.min_le_right _ _; omega) ⟨.bl _,H,I,rfl,q⟩
  ·cases hg
 ·split at hg
  ·rename_i ds c
   cases hg
   rw [Q3] at c
   obtain ⟨bs,q2⟩:=Rp.reads I sG (.tuple ds) y u r2 ry
   exact SeqAt.in_tuple_data q2 q1 (Q1E c.2) (Yh c.1) (by have:=Wb c.1; have:min (Qr ds) d.depth ≤ d.depth:=Nat.min_le_right _ _; omega) ⟨.bl _,H,I,rfl,q⟩
  ·cases hg
 ·rename_i ds
  cases e1:keyOf d with
  | none=>rw [e1] at hg; cases hg
  | some k =>
   rw [e1] at hg
   cases hg
   cases r2 with
   | dic h1 rk =>
    cases ry
    have ex:=Q2F e1 r1
    subst ex
    refine d_in (by omega) I (DGet.f (sG _ _ h1)) rx fun s' I'=>⟨.bl _,H,I',rfl,?_⟩
    rcases rk.val k with ⟨v1,v2⟩ | ⟨v0,d0,v1,v2,_⟩
    ·simp only [v2] at q; rw [v1]; exact q
    ·simp only [v2] at q; rw [v1]; exact q
 ·split at hg
  ·cases hg
   cases r1
   cases r2
   exact op_in_str pins s σ H _ _ v u Q I rx ry ⟨_,_,rfl,rfl,q⟩
  ·cases hg
 ·cases hg
theorem Q6L (hu:X.A.units + 65 < cLine):Q1j X .NotIn Q2I:=by
 intro pins s σ H x y v u Q I rx ry G d e b sG r1 r2 hg q
 obtain ⟨as,q1⟩:=Rp.reads I sG d x v r1 rx
 unfold Q2I inD at hg
 split at hg
 ·split at hg
  ·rename_i ds c
   cases hg
   rw [Q3] at c
   obtain ⟨bs,q2⟩:=Rp.reads I sG (.list ds) y u r2 ry
   exact SeqAt.notIn_list_data q2 q1 (Q2s c.2) (Yh c.1) (by have:=Wb c.1; have:min (Qr ds) d.depth ≤ d.depth:=Nat.min_le_right _ _; omega) ⟨.bl _,H,I,rfl,q⟩
  ·cases hg
 ·split at hg
  ·rename_i ds c
   cases hg
   rw [Q3] at c
   obtain ⟨bs,q2⟩:=Rp.reads I sG (.tuple ds) y u r2 ry
   exact SeqAt.notIn_tuple_data q2 q1 (Q1E c.2) (Yh c.1) (by have:=Wb c.1; have:min (Qr ds) d.depth ≤ d.depth:=Nat.min_le_right _ _; omega) ⟨.bl _,H,I,rfl,q⟩
  ·cases hg
 ·rename_i ds
  cases e1:keyOf d with
  | none=>rw [e1] at hg; cases hg
  | some k =>
   rw [e1] at hg
   cases hg
   cases r2 with
   | dic h1 rk =>
    cases ry
    have ex:=Q2F e1 r1
    subst ex
    refine d_notIn (by omega) I (DGet.f (sG _ _ h1)) rx fun s' I'=>⟨.bl _,H,I',rfl,?_⟩
    rcases rk.val k with ⟨v1,v2⟩ | ⟨v0,d0,v1,v2,_⟩
    ·simp only [v2] at q; rw [v1]; exact q
    ·simp only [v2] at q; rw [v1]; exact q
 ·split at hg
  ·cases hg
   cases r1
   cases r2
   exact op_notIn_str pins s σ H _ _ v u Q I rx ry ⟨_,_,rfl,rfl,q⟩
  ·cases hg
 ·cases hg
theorem Q6Y {K:PySem.W.Frag} {G:Hp} {x:V} {d:D} (r:Rp K G x d):decide (x = V.non) = Qa4 d:=by
 cases r <;> rfl
theorem Q6s:Q1j X .IsNot Q42:=by
 intro pins s σ H x y v u Q I rx ry G d e b sG r1 r2 hg q
 unfold Q42 isD at hg
 split at hg
 ·have e1:=Q6Y r1
  cases hg
  cases r2
  refine op_notN pins s σ H _ _ v u Q I rx ry ⟨rfl,?_⟩
  rw [e1]
  exact q
 ·split at hg
  ·cases hg
   cases r1
   cases r2
   exact op_isnot_bl pins s σ H _ _ v u Q I rx ry ⟨_,_,rfl,rfl,q⟩
  ·cases hg
 ·cases hg
end
end Z
namespace Z
open PySem PySem.Spec PyProof.Rows L2
section
variable {X:Cx} {pos:Pos}
theorem SR.seen {K:PySem.W.Frag} {Y:Fx} {F H:Hp} {δ:List Sl} {σ:L2.St} {A:Nat → List Addr} (S:SR K Y F H δ σ A) {p:Addr} {o:HO} (hp:H p = none):SR K Y (upd F p o) (upd H p o) δ σ A:=S.laid hp
def X2 (d e:D):Option D:=(Q4k d e).or (Q92 d e)
def Vs (d e:D):Option D:=(Q4j d e).or (Q8k d e)
def Q6K (K:PySem.W.Frag):R2:=fun x y H Q=>Q6u K x y H Q ∨ rCat x y H Q
theorem Jw:OpR X (binaryOp .Add) (Q6K X.K):=Q7f.or op_cat
theorem Q5m {d e z:D} (h:Q92 d e = some z):∃ a b,d = .list a ∧ e = .list b ∧ a.length + b.length ≤ sizeLine ∧ z = .list (a ++ b):=by
 unfold Q92 at h
 split at h
 ·split at h
  ·rename_i hz
   cases h
   exact ⟨_,_,rfl,rfl,hz,rfl⟩
  ·cases h
 ·cases h
theorem Jx:OpS X (Q6K X.K) X2:=by
 intro Y F H δ σ A R x y d e z S rx ry hg Q k
 unfold X2 at hg
 cases e1:Q4k d e with
 | some w =>
  rw [e1] at hg
  cases hg
  exact .inl (Q8Q Y F H δ σ A R x y d e _ S rx ry e1 Q k)
 | none =>
  rw [e1] at hg
  obtain ⟨i,j,rfl,rfl,hz,rfl⟩:=Q5m hg
  obtain ⟨a,xs,rfl,h1,r1⟩:=rx.list S
  obtain ⟨b,ys,rfl,h2,r2⟩:=ry.list S
  exact .inr ⟨a,b,xs,ys,rfl,rfl,h1,h2,by rw [r1.length,r2.length]; exact hz,fun p hp=>k _ _ _ (Stp.laid S hp) (S.laid hp) (.lst upd_same ((r1.append r2).mono (Stp.laid (M:=[]) S hp).f))⟩
def Q80 (K:PySem.W.Frag):R2:=fun x y H Q=>Q6C K x y H Q ∨ rRep x y H Q
theorem Vx:OpR X (binaryOp .Mult) (Q80 X.K):=Q6T.or op_rep
theorem Q59 {d e z:D} (h:Q8k d e = some z):∃ xs k,d = .list xs ∧ e = .int k ∧ 0 ≤ k ∧ k < 2 ^ 62 ∧ xs.length * k.toNat ≤ sizeLine ∧ z = .list (Qs k.toNat xs).flatten:=by
 unfold Q8k at h
 split at h
 ·split at h
  ·rename_i hz
   cases h
   simp only [Q3,decide_eq_true_eq] at hz
   exact ⟨_,_,rfl,rfl,hz.1.1,hz.1.2,hz.2,rfl⟩
  ·cases h
 ·cases h
theorem W6:OpS X (Q80 X.K) Vs:=by
 intro Y F H δ σ A R x y d e z S rx ry hg Q k
 unfold Vs at hg
 cases e1:Q4j d e with
 | some w =>
  rw [e1] at hg
  cases hg
  exact .inl (Q8x Y F H δ σ A R x y d e _ S rx ry e1 Q k)
 | none =>
  rw [e1] at hg
  obtain ⟨i,j,rfl,rfl,z1,z2,hz,rfl⟩:=Q59 hg
  obtain ⟨a,xs,rfl,h1,r1⟩:=rx.list S
  rw [ry.int]
  exact .inr ⟨a,j,xs,rfl,rfl,h1,by omega,by omega,by rw [r1.length]; exact hz,fun p hp=>k _ _ _ (Stp.laid S hp) (S.laid hp) (.lst upd_same ((r1.rep _).mono (Stp.laid (M:=[]) S hp).f))⟩
def Q50:D → Option D
 | .int i=>some (.int (-i))
 | _=>none
def f1 (g:D → Option D) (fa:List Sl → Option (D × List Sl)):List Sl → Option (D × List Sl):=fun δ=>(fa δ).bind fun p=>(g p.1).map fun z=>(z,p.2)
theorem Q1q {g:D → Option D} {fa:List Sl → Option (D × List Sl)} {δ δ':List Sl} {z:D} (h:f1 g fa δ = some (z,δ')):∃ d,fa δ = some (d,δ') ∧ g d = some z:=by
 unfold f1 at h
 cases e1:fa δ with
 | none=>rw [e1] at h; cases h
 | some p =>
  obtain ⟨d,δ1⟩:=p
  rw [e1] at h
  simp only [Q1] at h
  cases e3:g d with
  | none=>rw [e3] at h; cases h
  | some w =>
   rw [e3] at h
   cases h
   exact ⟨d,rfl,e3⟩
theorem Q35 {a:Expr} {fa} {R M:List Nat} (ha:EV X a fa R M):EV X (.UnaryOp .USub a pos) (f1 Q50 fa) [] M:=by
 obtain ⟨t,p,q⟩:=ha
 refine ⟨_,pe_un un_neg p,fun Y F H δ σ A S z δ' e Q k=>?_⟩
 obtain ⟨d,e1,e2⟩:=Q1q e
 refine q Y F H δ σ A S d δ' e1 _ fun v F1 H1 st S1 r=>?_
 cases d with
 | int i =>
  cases e2
  exact ⟨i,r.int,k _ F1 H1 st S1 (.inl (.int _))⟩
 | _=>cases e2
def Q9Y:R2:=fun x y H Q=>∃ a v,x = .ref a ∧ DGet H a y (some v) ∧ Q v H
theorem Q73 (hu:X.A.units + 1 < cLine):IxR X Q9Y:=by
 intro value slice pins s σ H x y v u Q I rx ry h hs
 obtain ⟨a,z,rfl,g,q⟩:=h
 cases rx
 exact tail_any (dict_typeIs I g) PySem.F.slot_dict_getitem.lookup (d_getItem hu I g ry fun w' s' I' r'=>⟨z,H,I',r',q⟩) hs
def Q9M (K:PySem.W.Frag):R2:=fun x y H Q=>rIx K x y H Q ∨ Q9Y x y H Q
theorem Q5c (hu:X.A.units + 1 < cLine):IxR X (Q9M X.K):=ix_seq.or (Q73 hu)
def Xe:D → D → Option D
 | .list ds,.int i=>atI ds i
 | .tuple ds,.int i=>atI ds i
 | .str z,.int i=>if z.length ≤ sizeLine then (atI z.cps.toList i).map fun c=>.str ⟨#[c]⟩ else none
 | .dict ds,k=>(keyOf k).bind (Q1l ds)
 | _,_=>none
theorem Rps.at {K:PySem.W.Frag} {G:Hp} {xs:List V} {ds:List D} {i:Int} {d:D} (h:Rps K G xs ds) (e:atI ds i = some d):∃ v,atI xs i = some v ∧ Rp K G v d:=by
 unfold atI at e ⊢
 rw [h.length]
 cases e1:ixN ds.length i with
 | none=>rw [e1] at e; cases e
 | some j =>
  rw [e1] at e
  exact h.get e
theorem Q8u:OpS X (Q9M X.K) Xe:=by
 intro Y F H δ σ A R x y d e z S rx ry hg Q k
 unfold Xe at hg
 split at hg
 ·rename_i ds i
  obtain ⟨a,xs,rfl,h1,r1⟩:=rx.list S
  obtain ⟨v,e1,r⟩:=r1.at hg
  rw [ry.int]
  exact .inl (.inl ⟨a,xs,i,v,rfl,rfl,SqL.of h1,e1,k v F H Stp.refl S r⟩)
 ·rename_i ds i
  obtain ⟨a,xs,rfl,_,h1,r1⟩:=rx.tup S
  obtain ⟨v,e1,r⟩:=r1.at hg
  rw [ry.int]
  exact .inl (.inr (.inl ⟨a,xs,i,v,rfl,rfl,h1,e1,k v F H Stp.refl S r⟩))
 ·rename_i zz i
  split at hg
  ·rename_i hz
   rw [rx.str,ry.int]
   cases e1:atI zz.cps.toList i with
   | none=>rw [e1] at hg; cases hg
   | some c =>
    rw [e1] at hg
    cases hg
    exact .inl (.inr (.inr ⟨zz,i,c,rfl,rfl,hz,e1,k _ F H Stp.refl S (.str _)⟩))
  ·cases hg
 ·rename_i ds _
  cases e1:keyOf e with
  | none=>rw [e1] at hg; cases hg
  | some k' =>
   rw [e1] at hg
   obtain ⟨a,_,kvs,rfl,h1,r1⟩:=rx.dict S
   have ey:=Q2F e1 (ry.ex S)
   subst ey
   rcases r1.val k' with ⟨_,v2⟩ | ⟨v0,d0,v1,v2,r0⟩
   ·simp only [Q1] at hg
    rw [v2] at hg; cases hg
   ·simp only [Q1] at hg
    rw [v2] at hg; cases hg
    refine .inr ⟨a,v0,rfl,?_,k v0 F H Stp.refl S r0⟩
    rw [← v1]
    exact DGet.f h1
 ·cases hg
theorem Xd {a b:Expr} {fa fb} {Ra Rb Ma Mb:List Nat} (hu:X.A.units + 1 < cLine) (ha:EV X a fa Ra Ma) (hb:EV X b fb Rb Mb) (dj:∀ i ∈ Ra,i ∉ Mb:=by decide) (hs:PlainIx b:=by intro _ _; rfl):EV X (.Subscript a b pos) (f2 Xe fa fb) [] (Ma ++ Mb):=by
 obtain ⟨ta,tb,pa,pb,q⟩:=two (g:=Xe) ha hb dj
 refine ⟨_,pe_ix (Q5c hu) pa pb hs,fun Y F H δ σ A S z δ' e Q k=>?_⟩
 refine q Y F H δ σ A S z δ' e _ fun x y d e F1 H1 st S1 r1 r2 hg=>?_
 refine Q8u Y F1 H1 δ' σ A _ x y d e z S1 r1 r2 hg Q fun v F2 H2 st2 S2 r3=>?_
 exact k v F2 H2 (Yo S1 st st2) S2 (.inl r3)
def OV (X:Cx) (e:Option Expr) (f:List Sl → Option (Option Int × List Sl)) (M:List Nat):Prop :=
 ∃ t,PO X e t ∧ ∀ (Y:Fx) (F H:Hp) (δ:List Sl) (σ:L2.St) (A:Nat → List Addr),SR X.K Y F H δ σ A → ∀ (d:Option Int) (δ':List Sl),f δ = some (d,δ') → ∀ Q:Option Int → Hp → Prop,
  (∀ F' H',Stp A M F H F' H' → SR X.K Y F' H' δ' σ A → Q d H') → t σ H Q
def Vr:List Sl → Option (Option Int × List Sl):=fun δ=>some (none,δ)
def Vf (fa:List Sl → Option (D × List Sl)):List Sl → Option (Option Int × List Sl):=fun δ=>(fa δ).bind fun p=>match p.1 with | .int i=>some (some i,p.2) | _=>none
theorem Y4:OV X none Vr []:=by
 refine ⟨_,po_none,fun Y F H δ σ A S d δ' e Q k=>?_⟩
 cases e
 exact k F H Stp.refl S
theorem Y5 {a:Expr} {fa} {R M:List Nat} (ha:EV X a fa R M):OV X (some a) (Vf fa) M:=by
 obtain ⟨t,p,q⟩:=ha
 refine ⟨_,po_some p,fun Y F H δ σ A S d δ' e Q k=>?_⟩
 unfold Vf at e
 cases e1:fa δ with
 | none=>rw [e1] at e; cases e
 | some p =>
  obtain ⟨d1,δ1⟩:=p
  rw [e1] at e
  refine q Y F H δ σ A S d1 δ1 e1 _ fun v F1 H1 st S1 r=>?_
  cases d1 with
  | int i =>
   cases e
   exact ⟨i,r.int,k F1 H1 st S1⟩
  | _=>cases e
def Yy {α:Type} (xs:List α) (lo hi:Option Int):List α:=(xs.drop (HT.sIx xs.length 0 lo)).take (HT.sIx xs.length xs.length hi - HT.sIx xs.length 0 lo)
theorem Rps.cut {K:PySem.W.Frag} {G:Hp} {xs:List V} {ds:List D} (h:Rps K G xs ds) (lo hi:Option Int):Rps K G (cutV xs lo hi) (Yy ds lo hi):=by
 unfold cutV Yy
 rw [h.length]
 exact (h.drop _).take _
def Xj (d:D) (lo hi:Option Int):Option D :=
 match d with
 | .list ds=>some (.list (Yy ds lo hi))
 | .tuple ds=>some (.tuple (Yy ds lo hi))
 | .str z=>if z.length ≤ sizeLine then some (.str (cutS z lo hi)) else none
 | _=>none
def f3 (g:D → Option Int → Option Int → Option D) (fa:List Sl → Option (D × List Sl)) (fl fh:List Sl → Option (Option Int × List Sl)):List Sl → Option (D × List Sl):=fun δ=>(fa δ).bind fun p=>(fl p.2).bind fun q=>(fh q.2).bind fun r=>(g p.1 q.1 r.1).map fun z=>(z,r.2)
theorem Q7T {g:D → Option Int → Option Int → Option D} {fa fl fh} {δ δ':List Sl} {z:D} (h:f3 g fa fl fh δ = some (z,δ')):∃ d δ1 lo δ2 hi,fa δ = some (d,δ1) ∧ fl δ1 = some (lo,δ2) ∧ fh δ2 = some (hi,δ') ∧ g d lo hi = some z:=by
 unfold f3 at h
 cases e1:fa δ with
 | none=>rw [e1] at h; cases h
 | some p =>
  obtain ⟨d,δ1⟩:=p
  rw [e1] at h
  simp only [Q1] at h
  cases e2:fl δ1 with
  | none=>rw [e2] at h; cases h
  | some q =>
   obtain ⟨lo,δ2⟩:=q
   rw [e2] at h
   simp only [Q1] at h
   cases e3:fh δ2 with
   | none=>rw [e3] at h; cases h
   | some q =>
    obtain ⟨hi,δ3⟩:=q
    rw [e3] at h
    simp only [Q1] at h
    cases e4:g d lo hi with
    | none=>rw [e4] at h; cases h
    | some w =>
     rw [e4] at h
     cases h
     exact ⟨d,δ1,lo,δ2,hi,rfl,e2,e3,e4⟩
def rSl3 (K:PySem.W.Frag):V → Option Int → Option Int → Hp → VK → Prop:=fun x lo hi H Q=>rSlL K x lo hi H Q ∨ rSlA K x lo hi H Q ∨ ∃ z,x = .str z ∧ z.length ≤ sizeLine ∧ Q (.str (cutS z lo hi)) H
theorem Q7y {α:Type} (xs:List α) (lo hi:Option Int) (h:HT.sIx xs.length 0 lo = 0 ∧ HT.sIx xs.length xs.length hi = xs.length):Yy xs lo hi = xs:=by
 unfold Yy
 rw [h.1,h.2]
 simp
theorem sl_3:SlR X (rSl3 X.K):=sl_list.or (sl_tupA.or sl_str)
theorem Xr {a:Expr} {lo hi:Option Expr} {fa fl fh} {R M Ml Mh:List Nat} {p2:Pos} (ha:EV X a fa R M) (hl:OV X lo fl Ml) (hh:OV X hi fh Mh) (d1:∀ i ∈ R,i ∉ Ml:=by decide) (d2:∀ i ∈ R,i ∉ Mh:=by decide):EV X (.Subscript a (.Slice lo hi none p2) pos) (f3 Xj fa fl fh) [] (M ++ Ml ++ Mh):=by
 obtain ⟨t,p,q⟩:=ha
 obtain ⟨tl,pl,ql⟩:=hl
 obtain ⟨th,ph,qh⟩:=hh
 refine ⟨_,pe_slice sl_3 p pl ph,fun Y F H δ σ A S z δ' e Q k=>?_⟩
 obtain ⟨d,δ1,l,δ2,h,e1,e2,e3,e4⟩:=Q7T e
 refine q Y F H δ σ A S d δ1 e1 _ fun x F1 H1 st1 S1 r1=>?_
 refine ql Y F1 H1 δ1 σ A S1 l δ2 e2 _ fun F2 H2 st2 S2=>?_
 refine qh Y F2 H2 δ2 σ A S2 h δ' e3 _ fun F3 H3 st3 S3=>?_
 have st:Stp A (M ++ Ml ++ Mh) F H F3 H3:=(st1.trans S1 st2).trans S2 st3
 have r3:Vw X.K F3 H3 A R x d:=(r1.step S1 st2 d1).step S2 st3 d2
 unfold Xj at e4
 split at e4
 ·cases e4
  obtain ⟨a',xs,rfl,h1,r⟩:=r3.list S3
  exact .inl ⟨a',xs,rfl,SqL.of h1,fun p hp=>k _ _ _ (Yo S3 st (Stp.laid S3 hp)) (S3.laid hp) (.inl (.lst upd_same ((r.cut l h).mono (Stp.laid (M:=[]) S3 hp).f)))⟩
 ·cases e4
  obtain ⟨a',xs,rfl,h0,h1,r⟩:=r3.tup S3
  refine .inr (.inl ⟨a',xs,rfl,h1,fun c=>?_,fun c p hp=>?_⟩)
  ·refine k _ F3 H3 st S3 (.inl ?_)
   rw [r.length] at c
   rw [Q7y _ _ _ c]
   exact .tup h0 r
  ·exact k _ _ _ (Yo S3 st (Stp.laid S3 hp)) (S3.laid hp) (.inl (.tup (.inl (.inl upd_same)) ((r.cut l h).mono (Stp.laid (M:=[]) S3 hp).f)))
 ·split at e4
  ·rename_i hz
   cases e4
   exact .inr (.inr ⟨_,r3.str,hz,k _ F3 H3 st S3 (.inl (.str _))⟩)
  ·cases e4
 ·cases e4
theorem Q9j {K:PySem.W.Frag} {Y:Fx} {F H F1 H1:Hp} {δ1:List Sl} {σ:L2.St} {A:Nat → List Addr} {M:List Nat} {p:Addr} (st:Stp A M F H F1 H1) (S1:SR K Y F1 H1 δ1 σ A) (n:H1 p = none):H p = none:=by
 cases e5:H p with
 | none=>rfl
 | some o =>
  by_cases c:∃ i,p ∈ A i
  ·obtain ⟨i,hi⟩:=c
   exact absurd n (S1.isSome hi)
  ·have:=st.kp p o e5 fun i _ hi=>c ⟨i,hi⟩
   rw [n] at this
   cases this
def Q0z (X:Cx) (r:List V → Hp → VK → Prop) (g:List D → Option D):Prop :=
 ∀ (Y:Fx) (F H:Hp) (δ:List Sl) (σ:L2.St) (A:Nat → List Addr) (R:List Nat) (xs:List V) (ds:List D) (z:D),SR X.K Y F H δ σ A → Vws X.K F H A R xs ds → g ds = some z →
  ∀ Q:VK,(∀ v F' H',Stp A [] F H F' H' → SR X.K Y F' H' δ σ A → Rp X.K F' v z → Q v H') → r xs H Q
def Q5O (X:Cx) (r:List V → Hp → VK → Prop) (g:List D → Option D):Prop :=
 ∀ (Y:Fx) (F H:Hp) (δ:List Sl) (σ:L2.St) (A:Nat → List Addr) (R:List Nat) (xs:List V) (ds:List D) (z:D),SR X.K Y F H δ σ A → Vws X.K F H A R xs ds → g ds = some z →
  ∀ Q:VK,(∀ p F' H',Stp A [] F H F' H' → SR X.K Y F' H' δ σ A → H p = none → F' p = none → K8 X.K F' H' p z → Q (.ref p) H') → r xs H Q
def fA (g:List D → Option D) (f:List Sl → Option (List D × List Sl)):List Sl → Option (D × List Sl):=fun δ=>(f δ).bind fun p=>(g p.1).map fun z=>(z,p.2)
theorem Q2T {g:List D → Option D} {f:List Sl → Option (List D × List Sl)} {δ δ':List Sl} {z:D} (h:fA g f δ = some (z,δ')):∃ d,f δ = some (d,δ') ∧ g d = some z:=by
 unfold fA at h
 cases e1:f δ with
 | none=>rw [e1] at h; cases h
 | some p =>
  obtain ⟨d,δ1⟩:=p
  rw [e1] at h
  simp only [Q1] at h
  cases e3:g d with
  | none=>rw [e3] at h; cases h
  | some w =>
   rw [e3] at h
   cases h
   exact ⟨d,rfl,e3⟩
section
variable {x:Str} {id T:String} {e:Expr} {es:List Expr} {f:List Sl → Option (List D × List Sl)} {R M:List Nat} {r:List V → Hp → VK → Prop} {g:List D → Option D} {p:Pos}
structure Bn (X:Cx) (x:Str) (v:Value):Prop where
 gl:Gl X x
 mg:X.mg x = none
 bt:bootBuiltins x = some v
 nn:x ≠ "__name__"
 db:(x == ("__debug__":Str)) = false
theorem Yf (b:Bn X x (.builtin id)) (hc:CallR X (.builtin id) r) (hs:Q0z X r g) (ha:AV X (e :: es) f R M) (h1:starEach (e :: es) X.env = (false,eval e X.env) :: starEach es X.env:=by rfl) (h2:(backTo pos (starEach es X.env)).any (·.1) = false:=by rfl):EV X (.Call (.Name x p) (e :: es) [] pos) (fA g f) [] M:=by
 obtain ⟨t,pa,q⟩:=ha
 refine ⟨_,pe_callB hc b.gl b.mg b.bt pa b.nn b.db h1 h2,fun Y F H δ σ A S z δ' e Q k=>?_⟩
 obtain ⟨d,e1,e2⟩:=Q2T e
 refine q Y F H δ σ A S d δ' e1 _ fun vs F1 H1 st S1 r1=>?_
 exact hs Y F1 H1 δ' σ A _ vs d z S1 r1 e2 Q fun v F2 H2 st2 S2 r3=>k v F2 H2 (Yo S1 st st2) S2 (.inl r3)
theorem Q1X (b:Bn X x (.type T)) (hc:CallR X (.type T) r) (hs:Q0z X r g) (ha:AV X (e :: es) f R M) (h1:starEach (e :: es) X.env = (false,eval e X.env) :: starEach es X.env:=by rfl) (h2:(backTo pos (starEach es X.env)).any (·.1) = false:=by rfl):EV X (.Call (.Name x p) (e :: es) [] pos) (fA g f) [] M:=by
 obtain ⟨t,pa,q⟩:=ha
 refine ⟨_,pe_callTy hc b.gl b.mg b.bt pa b.nn b.db h1 h2,fun Y F H δ σ A S z δ' e Q k=>?_⟩
 obtain ⟨d,e1,e2⟩:=Q2T e
 refine q Y F H δ σ A S d δ' e1 _ fun vs F1 H1 st S1 r1=>?_
 exact hs Y F1 H1 δ' σ A _ vs d z S1 r1 e2 Q fun v F2 H2 st2 S2 r3=>k v F2 H2 (Yo S1 st st2) S2 (.inl r3)
theorem Q3x (b:Bn X x (.type T)) (hc:CallR X (.type T) r) (hs:Q5O X r g) (ha:AV X (e :: es) f R M) (h1:starEach (e :: es) X.env = (false,eval e X.env) :: starEach es X.env:=by rfl) (h2:(backTo pos (starEach es X.env)).any (·.1) = false:=by rfl):NV X (.Call (.Name x p) (e :: es) [] pos) (fA g f) M:=by
 obtain ⟨t,pa,q⟩:=ha
 refine ⟨_,pe_callTy hc b.gl b.mg b.bt pa b.nn b.db h1 h2,fun Y F H δ σ A S z δ' e Q k=>?_⟩
 obtain ⟨d,e1,e2⟩:=Q2T e
 refine q Y F H δ σ A S d δ' e1 _ fun vs F1 H1 st S1 r1=>?_
 exact hs Y F1 H1 δ' σ A _ vs d z S1 r1 e2 Q fun v F2 H2 st2 S2 n f3 r3=>k v F2 H2 (Yo S1 st st2) S2 (Q9j st S1 n) f3 r3
end
end
end Z
namespace Z
open PySem PySem.Spec PyProof.Rows L2
section
variable {X:Cx}
theorem Vws.one {K:PySem.W.Frag} {F H:Hp} {A:Nat → List Addr} {R:List Nat} {vs:List V} {d:D} (h:Vws K F H A R vs [d]):∃ v,vs = [v] ∧ Vw K F H A R v d:=by
 match vs,h with
 | [v],⟨h,_⟩=>exact ⟨v,rfl,h⟩
 | [],h=>exact h.elim
 | _ :: _ :: _,⟨_,h⟩=>exact h.elim
theorem Vws.two {K:PySem.W.Frag} {F H:Hp} {A:Nat → List Addr} {R:List Nat} {vs:List V} {d e:D} (h:Vws K F H A R vs [d,e]):∃ v u,vs = [v,u] ∧ Vw K F H A R v d ∧ Vw K F H A R u e:=by
 match vs,h with
 | v :: r,⟨h,h'⟩ =>
  obtain ⟨u,rfl,h2⟩:=Vws.one h'
  exact ⟨v,u,rfl,h,h2⟩
 | [],h=>exact h.elim
def g1 (g:D → Option D):List D → Option D
 | [d]=>g d
 | _=>none
def g2 (g:D → D → Option D):List D → Option D
 | [d,e]=>g d e
 | _=>none
theorem W7 {g:D → Option D} {ds:List D} {z:D} (h:g1 g ds = some z):∃ d,ds = [d] ∧ g d = some z:=by
 unfold g1 at h
 split at h
 ·exact ⟨_,rfl,h⟩
 ·cases h
def Vb:D → Option D
 | .list ds=>some (.int ds.length)
 | .tuple ds=>some (.int ds.length)
 | .str z=>if z.length ≤ sizeLine then some (.int z.length) else none
 | _=>none
def Q9P (K:PySem.W.Frag):List V → Hp → VK → Prop:=fun xs H Q=>(∃ p ys,xs = [.ref p] ∧ (SqL K H p ys ∨ SqT K H p ys) ∧ Q (.int ys.length) H) ∨ ∃ z,xs = [.str z] ∧ z.length ≤ sizeLine ∧ Q (.int z.length) H
theorem Za:CallR X (.builtin "len") (Q9P X.K):=call_len_seq.or call_len_str
theorem Zi:Q0z X (Q9P X.K) (g1 Vb):=by
 intro Y F H δ σ A R xs ds z S r hg Q k
 obtain ⟨d,rfl,hg'⟩:=W7 hg
 clear hg
 have hg:=hg'
 obtain ⟨v,rfl,rv⟩:=r.one
 unfold Vb at hg
 split at hg
 ·cases hg
  obtain ⟨a,ys,rfl,h1,r1⟩:=rv.list S
  refine .inl ⟨a,ys,rfl,.inl (SqL.of h1),?_⟩
  rw [r1.length]
  exact k _ F H Stp.refl S (.int _)
 ·cases hg
  obtain ⟨a,ys,rfl,_,h1,r1⟩:=rv.tup S
  refine .inl ⟨a,ys,rfl,.inr h1,?_⟩
  rw [r1.length]
  exact k _ F H Stp.refl S (.int _)
 ·split at hg
  ·rename_i hz
   cases hg
   exact .inr ⟨_,by rw [rv.str],hz,k _ F H Stp.refl S (.int _)⟩
  ·cases hg
 ·cases hg
def Q2r:D → Option D
 | .list ds=>some (.list ds)
 | .tuple ds=>some (.list ds)
 | _=>none
def Q6P:D → Option D
 | .list ds=>some (.tuple ds)
 | .tuple ds=>some (.tuple ds)
 | _=>none
def Q82 (K:PySem.W.Frag):List V → Hp → VK → Prop:=fun xs H Q=>∃ p ys,xs = [.ref p] ∧ (SqL K H p ys ∨ SqT K H p ys) ∧ ∀ l,H l = none → Q (.ref l) (upd H l (.lst ys))
theorem Q6W:CallR X (.type "list") (Q82 X.K):=call_list_of
theorem Q6U:Q5O X (Q82 X.K) (g1 Q2r):=by
 intro Y F H δ σ A R xs ds z S r hg Q k
 obtain ⟨d,rfl,hg'⟩:=W7 hg
 clear hg
 have hg:=hg'
 obtain ⟨v,rfl,rv⟩:=r.one
 unfold Q2r at hg
 split at hg
 ·cases hg
  obtain ⟨a,ys,rfl,h1,r1⟩:=rv.list S
  exact ⟨a,ys,rfl,.inl (SqL.of h1),fun p hp=>k p F _ (Stp.laidO hp) (S.laidO hp) hp (S.sub.free hp) ⟨_,upd_same,r1⟩⟩
 ·cases hg
  obtain ⟨a,ys,rfl,_,h1,r1⟩:=rv.tup S
  exact ⟨a,ys,rfl,.inr h1,fun p hp=>k p F _ (Stp.laidO hp) (S.laidO hp) hp (S.sub.free hp) ⟨_,upd_same,r1⟩⟩
 ·cases hg
def Q5J (K:PySem.W.Frag):List V → Hp → VK → Prop:=fun xs H Q=>∃ p ys,xs = [.ref p] ∧ ((SqL K H p ys ∧ ∀ l,H l = none → Q (.ref l) (upd H l (.tup ys))) ∨ (SqT K H p ys ∧ Q (.ref p) H))
theorem Q3U:CallR X (.type "tuple") (Q5J X.K):=call_tuple_of
theorem Q3z:Q0z X (Q5J X.K) (g1 Q6P):=by
 intro Y F H δ σ A R xs ds z S r hg Q k
 obtain ⟨d,rfl,hg'⟩:=W7 hg
 clear hg
 have hg:=hg'
 obtain ⟨v,rfl,rv⟩:=r.one
 unfold Q6P at hg
 split at hg
 ·cases hg
  obtain ⟨a,ys,rfl,h1,r1⟩:=rv.list S
  exact ⟨a,ys,rfl,.inl ⟨SqL.of h1,fun p hp=>k _ _ _ (Stp.laid S hp) (S.laid hp) (.tup (.inl (.inl upd_same)) (r1.mono (Stp.laid (M:=[]) S hp).f))⟩⟩
 ·cases hg
  obtain ⟨a,ys,rfl,h0,h1,r1⟩:=rv.tup S
  exact ⟨a,ys,rfl,.inr ⟨h1,k _ F H Stp.refl S (.tup h0 r1)⟩⟩
 ·cases hg
def Q8V:D → Option D
 | .int i=>if i.natAbs.log2 < 1920 then some (.str (toString i)) else none
 | _=>none
def Q5F:List V → Hp → VK → Prop:=fun xs H Q=>∃ i,xs = [.int i] ∧ i.natAbs.log2 < 1920 ∧ Q (.str (toString i)) H
theorem Q8d:CallR X (.type "str") Q5F:=call_str_int
theorem Q8e:Q0z X Q5F (g1 Q8V):=by
 intro Y F H δ σ A R xs ds z S r hg Q k
 obtain ⟨d,rfl,hg'⟩:=W7 hg
 clear hg
 have hg:=hg'
 obtain ⟨v,rfl,rv⟩:=r.one
 unfold Q8V at hg
 split at hg
 ·split at hg
  ·rename_i hz
   cases hg
   exact ⟨_,by rw [rv.int],hz,k _ F H Stp.refl S (.str _)⟩
  ·cases hg
 ·cases hg
def Z7:List D → Option (List Int)
 | []=>some []
 | .int i :: r=>(Z7 r).map (i :: ·)
 | _ :: _=>none
theorem Q1e:∀ {ds:List D} {ns:List Int},Z7 ds = some ns → ds = ns.map Q0
 | [],_,h=>by cases h; rfl
 | d :: r,ns,h=>by
  cases d with
  | int i =>
   unfold Z7 at h
   cases e:Z7 r with
   | none=>rw [e] at h; cases h
   | some m =>
    rw [e] at h
    cases h
    rw [Q1e e]
    rfl
  | _=>cases h
theorem Q1W:∀ ns:List Int,Z7 (ns.map Q0) = some ns
 | []=>rfl
 | n :: ns=>by
  show (Z7 (ns.map Q0)).map (n :: ·) = _
  rw [Q1W ns]
  rfl
def Q4X:D → Option D
 | .list ds=>(Z7 ds).map fun ns=>.int ns.sum
 | _=>none
theorem Q7E (hc:X.calm = true):CallR X (.builtin "sum") (rSum X.K):=cr_sum hc
theorem Q8w:Q0z X (rSum X.K) (g1 Q4X):=by
 intro Y F H δ σ A R xs ds z S r hg Q k
 obtain ⟨d,rfl,hg'⟩:=W7 hg
 clear hg
 have hg:=hg'
 obtain ⟨v,rfl,rv⟩:=r.one
 unfold Q4X at hg
 split at hg
 ·rename_i ds'
  cases e:Z7 ds' with
  | none=>rw [e] at hg; cases hg
  | some ns =>
   rw [e] at hg
   cases hg
   have e2:=Q1e e
   subst e2
   obtain ⟨a,ys,rfl,h1,r1⟩:=rv.list S
   have e3:=r1.ints
   subst e3
   exact ⟨a,ns,rfl,SqL.of h1,k _ F H Stp.refl S (.int _)⟩
 ·cases hg
def Q9Q (d:D):Option D:=if d.showable && (!d.hasDict) && decide (d.shown.length ≤ sizeLine) && decide (d.depth ≤ 64) then some (.str d.shown) else none
def Q8z (ds:List D):Bool:=ds.all fun d=>ds.all fun e=>PySem.W.alike d e
end
end Z
namespace Z
open PySem PySem.Spec PyProof.Rows L2
def uA (A:Nat → List Addr) (i:Nat) (l:List Addr):Nat → List Addr:=fun j=>if j = i then l else A j
theorem Zq {A:Nat → List Addr} {i:Nat} {l:List Addr}:uA A i l i = l:=if_pos rfl
theorem Q02 {A:Nat → List Addr} {i j:Nat} {l:List Addr} (h:j ≠ i):uA A i l j = A j:=if_neg h
section
variable {K:PySem.W.Frag} {Y:Fx} {F F' H H':Hp} {δ:List Sl} {σ:L2.St} {A:Nat → List Addr} {i:Nat}
theorem Q3G {v:Option V} (h:i < σ.length):jn (σ.set i v)[i]? = v:=by
 rw [Qk h]
 rfl
theorem Q0V {v:Option V} {j:Nat} (h:j ≠ i):jn (σ.set i v)[j]? = jn σ[j]?:=by
 rw [Qe (Ne.symm h)]
theorem Q5X {v:Option V} {fs:List (Str × Nat)} (h:∀ q ∈ fs,q.2 ≠ i):Q4a (σ.set i v) fs = Q4a σ fs:=by
 unfold Q4a
 induction fs with
 | nil=>rfl
 | cons q r ih =>
  rw [J1,J1,Q0V (h q Qd),ih fun x hx=>h x (Q9 _ hx)]
theorem Q9V {io:Nat → Bool} {fs:List (Str × Nat)} (h:∀ q ∈ fs,io q.2 = true) (hio:io i = false):∀ q ∈ fs,q.2 ≠ i:=fun q hq z=>by
 have:=h q hq
 rw [z,hio] at this
 cases this
theorem SR.put (S:SR K Y F H δ σ A) (hi:i < δ.length) (hio:Y.io i = false) {s:Sl} {v:Option V} {l:List Addr} (hob:∀ c fs,s ≠ Sl.ob c fs) (h:Wx K F H s v l) (hF:∀ a ∈ l,F a = none) (hY:∀ a ∈ l,Y.H0 a = none) (hA:∀ a ∈ l,∀ j,j ≠ i → a ∉ A j) :
  SR K Y F H (δ.set i s) (σ.set i v) (uA A i l):=by
 have hs:i < σ.length:=by rw [← S.len]; exact hi
 refine ⟨by rw [J8,J8]; exact S.len,fun j t e=>?_,fun j e=>?_,fun j k a h1 h2=>?_,fun j a h1=>?_,fun j a h1 h2=>?_,S.sub,fun j h1=>?_,S.ioA,S.kp,S.nw,S.f0,S.lio,fun j c fs e=>?_,fun j hj=>?_⟩
 ·by_cases c:j = i
  ·subst c
   rw [Qk hi] at e
   cases e
   rw [Q3G hs,Zq]
   exact h
  ·rw [Qe (Ne.symm c)] at e
   rw [Q0V c,Q02 c]
   exact S.slot j t e
 ·by_cases c:j = i
  ·subst c
   rw [Qk hi] at e
   cases e
  ·rw [Qe (Ne.symm c)] at e
   rw [Q02 c]
   exact S.out j e
 ·by_cases c:j = i
  ·by_cases c2:k = i
   ·rw [c,c2]
   ·subst c
    rw [Zq] at h1
    rw [Q02 c2] at h2
    exact absurd h2 (hA a h1 k c2)
  ·by_cases c2:k = i
   ·subst c2
    rw [Zq] at h2
    rw [Q02 c] at h1
    exact absurd h1 (hA a h2 j c)
   ·rw [Q02 c] at h1
    rw [Q02 c2] at h2
    exact S.dis j k a h1 h2
 ·by_cases c:j = i
  ·subst c
   rw [Zq] at h1
   exact hF a h1
  ·rw [Q02 c] at h1
   exact S.hid j a h1
 ·by_cases c:j = i
  ·subst c
   rw [Zq] at h1
   exact hY a h1
  ·rw [Q02 c] at h1
   exact S.new j a h1 h2
 ·by_cases c:j = i
  ·subst c
   rw [S.nlt hio] at h1
   cases h1
  ·rw [Qe (Ne.symm c),Q02 c]
   exact S.fix j h1
 ·by_cases c2:j = i
  ·subst c2
   rw [Qk hi] at e
   exact absurd (J2.inj e) (hob c fs)
  ·rw [Qe (Ne.symm c2)] at e
   rw [Q0V c2]
   obtain ⟨h1,h2⟩:=S.ob j c fs e
   refine ⟨h1,fun p C dx fvs e1 e2=>?_⟩
   rw [Q5X (Q9V h1 (S.nvt hio))]
   exact h2 p C dx fvs e1 e2
 ·rw [Qe fun z=>by rw [← z,hio] at hj; cases hj]
  exact S.vno j hj
theorem SR.putFz (S:SR K Y F H δ σ A) (hi:i < δ.length) (hio:Y.io i = false) {d:D} {v:V} (h:Rp K F v d):SR K Y F H (δ.set i (.fz d)) (σ.set i (some v)) (uA A i []) :=
 S.put hi hio (fun _ _=>by simp) (show Wx K F H (.fz d) (some v) [] from ⟨rfl,v,rfl,h⟩) (by simp) (by simp) (by simp)
theorem SR.putNo (S:SR K Y F H δ σ A) (hi:i < δ.length) (hio:Y.io i = false) {v:Option V}:SR K Y F H (δ.set i .no) (σ.set i v) (uA A i []) :=
 S.put hi hio (fun _ _=>by simp) (show Wx K F H .no v [] from rfl) (by simp) (by simp) (by simp)
theorem SR.putOw (S:SR K Y F H δ σ A) (hi:i < δ.length) (hio:Y.io i = false) {d:D} {p:Addr} (hp:Y.H0 p = none) (hF:F p = none) (hA:∀ j,p ∉ A j) (h:K8 K F H p d):SR K Y F H (δ.set i (.ow d)) (σ.set i (some (.ref p))) (uA A i [p]) :=
 S.put hi hio (fun _ _=>by simp) (show Wx K F H (.ow d) (some (.ref p)) [p] from ⟨p,rfl,rfl,h⟩) (fun a ha=>by simp at ha; subst ha; exact hF) (fun a ha=>by simp at ha; subst ha; exact hp) (fun a ha j _=>by simp at ha; subst ha; exact hA j)
theorem SR.fresh0 (S:SR K Y F H δ σ A) {p:Addr} (hp:H p = none):Y.H0 p = none:=by
 cases e:Y.H0 p with
 | none=>rfl
 | some o =>
  by_cases c:∃ i,Y.lt i = true ∧ p ∈ Y.A0 i
  ·obtain ⟨i,hi,hA⟩:=c
   rw [← (S.fix i hi).2] at hA
   exact absurd hp (S.isSome hA)
  ·have:=S.kp p o e fun i hi z=>c ⟨i,hi,z⟩
   rw [hp] at this
   cases this
theorem SR.vno_set (S:SR K Y F H δ σ A) (hi:i < δ.length) {s:Sl} (h:s ≠ Sl.no):∀ (j:Nat),Y.io j = true → (δ.set i s)[j]? ≠ some Sl.no:=fun j hj=>by
 by_cases c:j = i
 ·subst c
  rw [Qk hi]
  exact fun z=>h (J2.inj z)
 ·rw [Qe (Ne.symm c)]
  exact S.vno j hj
theorem SR.ob_set (S:SR K Y F H δ σ A) (hi:i < δ.length) {s:Sl} (hob:∀ c fs,s ≠ Sl.ob c fs) (k:∀ j,j ≠ i → ∀ a ∈ A j,H' a = H a):∀ (j:Nat) (c:Str) (fs:List (Str × Nat)),(δ.set i s)[j]? = some (Sl.ob c fs) → ObR Y.vt H' (jn σ[j]?) σ fs:=fun j c fs e=>by
 by_cases c2:j = i
 ·subst c2
  rw [Qk hi] at e
  exact absurd (J2.inj e) (hob c fs)
 ·rw [Qe (Ne.symm c2)] at e
  obtain ⟨h1,h2⟩:=S.ob j c fs e
  refine ⟨h1,fun p C dx fvs e1 e2=>h2 p C dx fvs e1 ?_⟩
  rw [← k j c2 p (S.obp e e1)]
  exact e2
def frz (i:Nat) (δ:List Sl):List Sl:=match δ[i]? with
 | some (.ow d)=>δ.set i (.fz d)
 | _=>δ
theorem SR.wipe1 (S:SR K Y F H δ σ A) (hi:i < δ.length) (hio:Y.io i = false):SR K Y F H (δ.set i .no) σ (uA A i []):=by
 have w:=S.putNo (v:=jn σ[i]?) hi hio
 have e:σ.set i (jn σ[i]?) = σ:=by
  have hs:i < σ.length:=by rw [← S.len]; exact hi
  apply List.ext_getElem?
  intro j
  by_cases c:j = i
  ·subst c
   rw [Qk hs,Qh hs]
   rfl
  ·rw [Qe (Ne.symm c)]
 rwa [e] at w
end
inductive Out where
 | nx (δ:List Sl)
 | ct (δ:List Sl)
 | rt (d:D) (δ:List Sl)
def RetR (K:PySem.W.Frag) (Y:Fx) (fr:Fr) (F H:Hp) (A:Nat → List Addr) (v:V) (d:D):Prop :=
 match fr with
 | .n=>Rp K F v d
 | .t=>PlT K F v d
 | .l=>∃ p,v = .ref p ∧ Y.H0 p = none ∧ F p = none ∧ (∀ i,Y.io i = true → p ∉ A i) ∧ K8 K F H p d
 | .p=>∃ a p q d0 d1,v = .ref a ∧ d = .tuple [d0,d1] ∧ H a = some (.tup [.ref p,.ref q]) ∧ p ≠ q ∧ (Y.H0 p = none ∧ F p = none ∧ (∀ i,Y.io i = true → p ∉ A i) ∧ K8 K F H p d0) ∧ Y.H0 q = none ∧ F q = none ∧ (∀ i,Y.io i = true → q ∉ A i) ∧ K8 K F H q d1
 | .s j=>d = .none ∧ Y.io j = true ∧ ∃ p,v = .ref p ∧ A j = [p]
def Q5D (K:PySem.W.Frag) (Y:Fx) (fr:Fr) (F:Hp) (D:Ends):Out → Prop
 | .nx δ'=>∀ σ' F' H' A',Same F F' → SR K Y F' H' δ' σ' A' → D.nx σ' H'
 | .ct δ'=>∀ σ' F' H' A',Same F F' → SR K Y F' H' δ' σ' A' → D.ct σ' H'
 | .rt d δ'=>∀ v σ' F' H' A',Same F F' → SR K Y F' H' δ' σ' A' → RetR K Y fr F' H' A' v d → D.rt v H'
def SV (X:Cx) (io:Iom) (fr:Fr) (st:Stmt) (g:List Sl → Option Out):Prop :=
 ∃ t,PS X st t ∧ ∀ (Y:Fx) (F H:Hp) (δ:List Sl) (σ:L2.St) (A:Nat → List Addr),Y.io = io → SR X.K Y F H δ σ A → ∀ (o:Out),g δ = some o → ∀ D:Ends,Q5D X.K Y fr F D o → t D σ H
def BV (X:Cx) (io:Iom) (fr:Fr) (st:List Stmt) (g:List Sl → Option Out):Prop :=
 ∃ t,PSs X st t ∧ ∀ (Y:Fx) (F H:Hp) (δ:List Sl) (σ:L2.St) (A:Nat → List Addr),Y.io = io → SR X.K Y F H δ σ A → ∀ (o:Out),g δ = some o → ∀ D:Ends,Q5D X.K Y fr F D o → t D σ H
theorem Q5D.mono {K:PySem.W.Frag} {Y:Fx} {fr:Fr} {F F':Hp} {D:Ends} {o:Out} (h:Q5D K Y fr F D o) (s:Same F F'):Q5D K Y fr F' D o:=by
 cases o with
 | nx δ=>exact fun σ' F1 H' A' s1=>h σ' F1 H' A' (s.trans s1)
 | ct δ=>exact fun σ' F1 H' A' s1=>h σ' F1 H' A' (s.trans s1)
 | rt d δ=>exact fun v σ' F1 H' A' s1=>h v σ' F1 H' A' (s.trans s1)
section
variable {X:Cx} {io:Iom} {fr:Fr} {st:Stmt} {rest:List Stmt} {pos:Pos} {g g':List Sl → Option Out}
def Jp (g g':List Sl → Option Out):List Sl → Option Out:=fun δ=>(g δ).bind fun o=>match o with
 | .nx δ1=>g' δ1
 | .ct δ1=>some (.ct δ1)
 | .rt d δ1=>some (.rt d δ1)
def Xf:List Sl → Option Out:=fun δ=>some (.nx δ)
theorem Jr:BV X io fr [] Xf:=by
 refine ⟨_,pss_nil,fun Y F H δ σ A _ S o e D k=>?_⟩
 cases e
 exact k σ F H A (Same.refl _) S
theorem Jj (h1:SV X io fr st g) (h2:BV X io fr rest g'):BV X io fr (st :: rest) (Jp g g'):=by
 obtain ⟨t,p,q⟩:=h1
 obtain ⟨t2,p2,q2⟩:=h2
 refine ⟨_,pss_cons p p2,fun Y F H δ σ A hY S o e D k=>?_⟩
 unfold Jp at e
 cases e1:g δ with
 | none=>rw [e1] at e; cases e
 | some o1 =>
  rw [e1] at e
  refine q Y F H δ σ A hY S o1 e1 _ ?_
  cases o1 with
  | nx δ1=>exact fun σ' F' H' A' s S'=>q2 Y F' H' δ1 σ' A' hY S' o e D (k.mono s)
  | ct δ1=>cases e; exact k
  | rt d δ1=>cases e; exact k
def Xm (vs:List Nat) (δ:List Sl):List Sl:=vs.foldr (fun j δ=>δ.set j .no) δ
theorem SR.wipeAll {K:PySem.W.Frag} {Y:Fx} {F H:Hp} {σ:L2.St}:∀ {vs:List Nat} {δ:List Sl} {A:Nat → List Addr},SR K Y F H δ σ A → (∀ i ∈ vs,Y.io i = false) → ∃ A',SR K Y F H (Xm vs δ) σ A'
 | [],δ,A,S,_=>⟨A,S⟩
 | i :: vs,δ,A,S,h=>by
  obtain ⟨A',S'⟩:=SR.wipeAll (vs:=vs) S fun j hj=>h j (Q9 _ hj)
  by_cases c:i < (Xm vs δ).length
  ·exact ⟨_,S'.wipe1 c (h i Qd)⟩
  ·refine ⟨A',?_⟩
   show SR K Y F H ((Xm vs δ).set i .no) σ A'
   rw [List.set_eq_of_length_le (by omega)]
   exact S'
def Q3s (vs:List Nat) (g:List Sl → Option Out):List Sl → Option Out:=fun δ=>g (Xm vs δ)
theorem Q11 {vs:List Nat} (hio:vs.all (fun i=>!io i) = true) (h:SV X io fr st g):SV X io fr st (Q3s vs g):=by
 obtain ⟨t,p,q⟩:=h
 refine ⟨_,p,fun Y F H δ σ A hY S o e D k=>?_⟩
 obtain ⟨A',S'⟩:=S.wipeAll (vs:=vs) fun i hi=>by
  rw [hY]
  have:=Qi.mp hio i hi
  simpa using this
 exact q Y F H _ σ A' hY S' o e D k
def Z5 (vs:List Nat):List Sl → Option Out:=fun δ=>some (.nx (Xm vs δ))
theorem Wp {vs:List Nat} (hio:vs.all (fun i=>!io i) = true):BV X io fr [] (Z5 vs):=by
 refine ⟨_,pss_nil,fun Y F H δ σ A hY S o e D k=>?_⟩
 obtain ⟨A',S'⟩:=S.wipeAll (vs:=vs) fun i hi=>by
  rw [hY]
  have:=Qi.mp hio i hi
  simpa using this
 cases e
 exact k σ F H A' (Same.refl _) S'
def Yr (i:Nat) (f:List Sl → Option (D × List Sl)):List Sl → Option Out:=fun δ=>(f δ).bind fun p=>if i < p.2.length then some (.nx (p.2.set i (.fz p.1))) else none
def Q3Q (i:Nat) (f:List Sl → Option (D × List Sl)):List Sl → Option Out:=fun δ=>(f δ).bind fun p=>if i < p.2.length then some (.nx (p.2.set i (.ow p.1))) else none
structure Tg (X:Cx) (i:Nat) (x:Str):Prop where
 nd:X.N.Nodup
 at_:X.N[i]? = some x
 loc:Loc X.env.scope x
 fn:X.fn x = true ∨ X.env.scope.names.lookup x = some .local
theorem Xv {i:Nat} {x:Str} {e:Expr} {f} {M:List Nat} {pos':Pos} (hio:io i = false) (T:Tg X i x) (h:EV X e f [] M) (hs:swapsWith e (some (.Name x pos')) pos.line X.env = pure false:=by rfl):SV X io fr (.Assign [.Name x pos'] e pos) (Yr i f):=by
 obtain ⟨t,p,q⟩:=h
 refine ⟨_,ps_set T.nd T.at_ T.loc p hs T.fn,fun Y F H δ σ A hY S o e D k=>?_⟩
 unfold Yr at e
 cases e1:f δ with
 | none=>rw [e1] at e; cases e
 | some p =>
  obtain ⟨d,δ1⟩:=p
  rw [e1] at e
  simp only [Q1] at e
  split at e
  ·rename_i hi
   cases e
   refine q Y F H δ σ A S d δ1 e1 _ fun v F1 H1 st S1 r=>?_
   exact k _ F1 H1 _ st.f (S1.putFz hi (by rw [hY]; exact hio) r.nil)
  ·cases e
theorem Q8q {i:Nat} {x:Str} {e:Expr} {f} {M:List Nat} {pos':Pos} (hio:io i = false) (T:Tg X i x) (h:NV X e f M) (hs:swapsWith e (some (.Name x pos')) pos.line X.env = pure false:=by rfl):SV X io fr (.Assign [.Name x pos'] e pos) (Q3Q i f):=by
 obtain ⟨t,p,q⟩:=h
 refine ⟨_,ps_set T.nd T.at_ T.loc p hs T.fn,fun Y F H δ σ A hY S o e D k=>?_⟩
 unfold Q3Q at e
 cases e1:f δ with
 | none=>rw [e1] at e; cases e
 | some p =>
  obtain ⟨d,δ1⟩:=p
  rw [e1] at e
  simp only [Q1] at e
  split at e
  ·rename_i hi
   cases e
   refine q Y F H δ σ A S d δ1 e1 _ fun p F1 H1 st S1 n hF r=>?_
   exact k _ F1 H1 _ st.f (S1.putOw hi (by rw [hY]; exact hio) (S.fresh0 n) hF (fun j hj=>S.isSome hj n) r)
  ·cases e
def Xu (f:List Sl → Option (D × List Sl)):List Sl → Option Out:=fun δ=>(f δ).map fun p=>.rt p.1 p.2
theorem Xa {e:Expr} {f} {M:List Nat} (h:EV X e f [] M):SV X io .n (.Return (some e) pos) (Xu f):=by
 obtain ⟨t,p,q⟩:=h
 refine ⟨_,ps_ret p,fun Y F H δ σ A hY S o e D k=>?_⟩
 unfold Xu at e
 cases e1:f δ with
 | none=>rw [e1] at e; cases e
 | some p =>
  obtain ⟨d,δ1⟩:=p
  rw [e1] at e
  cases e
  exact q Y F H δ σ A S d δ1 e1 _ fun v F1 H1 st S1 r=>k v σ F1 H1 A st.f S1 r.nil
theorem Q4y {e:Expr} {f} {M:List Nat} (h:NV X e f M):SV X io .l (.Return (some e) pos) (Xu f):=by
 obtain ⟨t,p,q⟩:=h
 refine ⟨_,ps_ret p,fun Y F H δ σ A hY S o e D k=>?_⟩
 unfold Xu at e
 cases e1:f δ with
 | none=>rw [e1] at e; cases e
 | some p =>
  obtain ⟨d,δ1⟩:=p
  rw [e1] at e
  cases e
  exact q Y F H δ σ A S d δ1 e1 _ fun p F1 H1 st S1 n hF r=>k _ σ F1 H1 A st.f S1 ⟨p,rfl,S.fresh0 n,hF,fun i _ z=>S.isSome z n,r⟩
def Q5p (f:List Sl → Option (D × List Sl)):List Sl → Option Out:=fun δ=>(f δ).map fun p=>.nx p.2
theorem Q9a {e:Expr} {f} {R M:List Nat} (h:EV X e f R M) (hs:swapsWith e none pos.line X.env = pure false:=by rfl):SV X io fr (.Expr e pos) (Q5p f):=by
 obtain ⟨t,p,q⟩:=h
 refine ⟨_,ps_expr p hs,fun Y F H δ σ A hY S o e D k=>?_⟩
 unfold Q5p at e
 cases e1:f δ with
 | none=>rw [e1] at e; cases e
 | some p =>
  obtain ⟨d,δ1⟩:=p
  rw [e1] at e
  cases e
  exact q Y F H δ σ A S d δ1 e1 _ fun v F1 H1 st S1 r=>k σ F1 H1 A st.f S1
def sIf (c:List Sl → Option (Bool × List Sl)) (g g':List Sl → Option Out):List Sl → Option Out:=fun δ=>(c δ).bind fun p=>match p.1 with | true=>g p.2 | false=>g' p.2
theorem V0 {c:Expr} {a b:List Stmt} {gc} {M:List Nat} (hc:TV X c gc M) (ha:BV X io fr a g) (hb:BV X io fr b g'):SV X io fr (.If c a b pos) (sIf gc g g'):=by
 obtain ⟨t,p,q⟩:=hc
 obtain ⟨ta,pa,qa⟩:=ha
 obtain ⟨tb,pb,qb⟩:=hb
 refine ⟨_,ps_if p pa pb,fun Y F H δ σ A hY S o e D k=>?_⟩
 unfold sIf at e
 cases e1:gc δ with
 | none=>rw [e1] at e; cases e
 | some p =>
  obtain ⟨b1,δ1⟩:=p
  rw [e1] at e
  refine q Y F H δ σ A S b1 δ1 e1 _ fun F1 H1 st S1=>?_
  cases b1 with
  | true=>exact iteT (qa Y F1 H1 δ1 σ A hY S1 o e D (k.mono st.f))
  | false=>exact iteF (qb Y F1 H1 δ1 σ A hY S1 o e D (k.mono st.f))
end
end Z
namespace Z
open PySem PySem.Spec PyProof.Rows L2
section
variable {X:Cx} {pos:Pos}
structure Mc (X:Cx) (o:Expr) (name:Str) (apos:Pos) (e:Expr) (es:List Expr) (cpos:Pos):Prop where
 base:attributeBase o name X.env (eval o X.env) = eval o X.env
 few:((backTo cpos (starEach (e :: es) X.env)).all (fun x=>!x.1) && (backToKw cpos (keywordEach [] X.env)).all (fun x=>x.1.isSome) && decide ((e :: es).length + ([]:List Keyword).length + (if ([]:List Keyword).isEmpty then 0 else 1) < 30)) = true
 line:(apos.endLine == cpos.line) = true
 star:starEach (e :: es) X.env = (false,eval e X.env) :: starEach es X.env
 plain:(backTo cpos (starEach es X.env)).any (·.1) = false
structure Mc0 (X:Cx) (o:Expr) (name:Str) (apos:Pos) (cpos:Pos):Prop where
 base:attributeBase o name X.env (eval o X.env) = eval o X.env
 line:(apos.endLine == cpos.line) = true
structure Nm (X:Cx) (i:Nat) (x:Str):Prop where
 at_:X.N[i]? = some x
 vis:Vis X.env.scope x
 db:(x == ("__debug__":Str)) = false
 cd:(x == ("__classdict__":Str)) = false
theorem Nm.pe {i:Nat} {x:Str} (n:Nm X i x):PE X (.Name x pos) (tVar i):=pe_var n.at_ n.vis n.db n.cd
theorem tyL {K:PySem.W.Frag} {H:Hp} {p:Addr} {xs:List V} (h:H p = some (.lst xs)):tyV K "list" (.ref p) H:=.inl ⟨rfl,xs,SqL.of h⟩
theorem Rps.dropLast {K:PySem.W.Frag} {G:Hp} {xs:List V} {ds:List D} (h:Rps K G xs ds):Rps K G xs.dropLast ds.dropLast:=by
 rw [List.dropLast_eq_take,List.dropLast_eq_take,h.length]
 exact h.take _
def Q90 (ds:List (D × D)) (k:Key) (d:D):List (D × D):=if ds.any (fun p=>decide (keyOf p.1 = some k)) then ds.map (fun p=>if keyOf p.1 = some k then (p.1,d) else p) else ds ++ [(Q2d k,d)]
theorem RpK.length {K:PySem.W.Frag} {G:Hp}:∀ {kvs:List (Key × V)} {ds:List (D × D)},RpK K G kvs ds → kvs.length = ds.length
 | _,_,.nil=>rfl
 | _,_,.cons _ r=>congrArg (· + 1) r.length
theorem RpK.append {K:PySem.W.Frag} {G:Hp}:∀ {kvs lws:List (Key × V)} {ds es:List (D × D)},RpK K G kvs ds → RpK K G lws es → RpK K G (kvs ++ lws) (ds ++ es)
 | _,_,_,_,.nil,s=>s
 | _,_,_,_,.cons h r,s=>.cons h (r.append s)
theorem RpK.any {K:PySem.W.Frag} {G:Hp} (k:Key):∀ {kvs:List (Key × V)} {ds:List (D × D)},RpK K G kvs ds → (kvs.any fun kv=>decide (kv.1 = k)) = ds.any fun p=>decide (keyOf p.1 = some k)
 | _,_,.nil=>rfl
 | _,_,.cons (k:=k0) h r=>by
  rw [List.any_cons,List.any_cons,r.any k,Wd]
  by_cases e:k0 = k <;> simp [e]
theorem RpK.repl {K:PySem.W.Frag} {G:Hp} (k:Key) {v:V} {d:D} (hv:Rp K G v d):∀ {kvs:List (Key × V)} {ds:List (D × D)},RpK K G kvs ds → RpK K G (kvs.map fun kv=>if kv.1 = k then (kv.1,v) else kv) (ds.map fun p=>if keyOf p.1 = some k then (p.1,d) else p)
 | _,_,.nil=>.nil
 | _,_,.cons (k:=k0) h r=>by
  rw [Qp,Qp]
  simp only [Wd]
  by_cases e:k0 = k
  ·rw [if_pos e,if_pos (congrArg some e)]
   exact .cons hv (r.repl k hv)
  ·rw [if_neg e,if_neg fun z=>e (J2.inj z)]
   exact .cons h (r.repl k hv)
theorem RpK.put {K:PySem.W.Frag} {G:Hp} {kvs:List (Key × V)} {ds:List (D × D)} (k:Key) {v:V} {d:D} (h:RpK K G kvs ds) (hv:Rp K G v d):RpK K G (putK kvs k v) (Q90 ds k d):=by
 unfold putK Q90
 rw [← h.any k]
 split
 ·exact h.repl k hv
 ·exact h.append (.cons hv .nil)
def Q9F:TSet:=fun o i v H Q=>rSetL o i v H Q ∨ ∃ a H',o = .ref a ∧ DPut H a i v H' ∧ Q H'
theorem Q9s (hu:X.A.units + 1 < cLine):PSet X Q9F:=by
 intro pins s σ H o i v ov iv u Q I ro ri rv h
 rcases h with h | ⟨a,H',rfl,g,q⟩
 ·exact set_list pins s σ H o i v ov iv u Q I ro ri rv h
 ·cases ro
  exact d_setItem hu I g ri rv fun s' I'=>⟨H',I',q⟩
structure Pc (X:Cx) (o i:Expr) (v:Expr) (tpos:Pos) (line:Nat):Prop where
 sw:swapsWithSole [.Subscript o i tpos] v line X.env = pure false
 st:swappedStores [.Subscript o i tpos] v X.env = pure none
 ea:(assignEach [.Subscript o i tpos] X.env).map (·.2) = [assign (.Subscript o i tpos) X.env]
 as:∀ u,assign (.Subscript o i tpos) X.env u = (do
   let ov ← holding [u] (eval o X.env)
   let iv ← holding [u,ov] (eval i X.env)
   standAt tpos
   holding [u,ov,iv] (setItem ov iv u)
   release [u,ov,iv] [])
end
end Z
namespace Z
open PySem PySem.Spec PyProof.Rows L2
inductive Tt where
 | nm (i:Nat)
 | nil
 | cons (a b:Tt)
mutual
/-- a target takes a datum -/
def Xl:Tt → D → List Sl → Option (List Sl)
 | .nm i,d,δ=>if i < δ.length then some (δ.set i (.fz d)) else none
 | .nil,d,δ=>match d with
  | .tuple ds=>Xi .nil ds δ
  | _=>none
 | .cons a b,d,δ=>match d with
  | .tuple ds=>Xi (.cons a b) ds δ
  | _=>none
def Xi:Tt → List D → List Sl → Option (List Sl)
 | .nil,[],δ=>some δ
 | .cons a b,d :: ds,δ=>(Xl a d δ).bind fun δ1=>Xi b ds δ1
 | _,_,_=>none
end
mutual
theorem Q0m:∀ {T:Tt} {d:D} {δ δ':List Sl},Xl T d δ = some δ' → δ'.length = δ.length
 | .nm i,d,δ,δ',h=>by
  unfold Xl at h
  split at h
  ·cases h
   rw [J8]
  ·cases h
 | .nil,d,δ,δ',h=>by
  unfold Xl at h
  cases d with
  | tuple ds=>exact Wy h
  | _=>cases h
 | .cons a b,d,δ,δ',h=>by
  unfold Xl at h
  cases d with
  | tuple ds=>exact Wy h
  | _=>cases h
theorem Wy:∀ {T:Tt} {ds:List D} {δ δ':List Sl},Xi T ds δ = some δ' → δ'.length = δ.length
 | .nm i,ds,δ,δ',h=>by
  unfold Xi at h
  cases h
 | .nil,[],δ,δ',h=>by
  unfold Xi at h
  cases h
  rfl
 | .nil,_ :: _,δ,δ',h=>by
  unfold Xi at h
  cases h
 | .cons a b,[],δ,δ',h=>by
  unfold Xi at h
  cases h
 | .cons a b,d :: ds,δ,δ',h=>by
  unfold Xi at h
  cases e:Xl a d δ with
  | none=>rw [e] at h; cases h
  | some δ1 =>
   rw [e] at h
   rw [Wy (T:=b) h,Q0m e]
end
def tS:Tt → List Nat
 | .nm i=>[i]
 | .nil=>[]
 | .cons a b=>tS a ++ tS b
structure But (l:List Nat) (σ σ':L2.St) (A A':Nat → List Addr):Prop where
 s:∀ j,j ∉ l → σ'[j]? = σ[j]?
 a:∀ j,j ∉ l → A' j = A j
 e:∀ j,j ∈ l → A' j = []
theorem But.trans {l m:List Nat} {σ σ1 σ2:L2.St} {A A1 A2:Nat → List Addr} (h:But l σ σ1 A A1) (h':But m σ1 σ2 A1 A2):But (l ++ m) σ σ2 A A2:=by
 refine ⟨fun j hj=>?_,fun j hj=>?_,fun j hj=>?_⟩
 ·simp only [Qo,not_or] at hj
  rw [h'.s j hj.2,h.s j hj.1]
 ·simp only [Qo,not_or] at hj
  rw [h'.a j hj.2,h.a j hj.1]
 ·by_cases c:j ∈ m
  ·exact h'.e j c
  ·rw [h'.a j c]
   exact h.e j ((Qo.mp hj).resolve_right c)
section
variable {X:Cx} {io:Iom}
def GV (X:Cx) (e:Expr) (T:Tt):Prop :=
 ∃ g,PG X e g ∧ ∀ (Y:Fx) (F H:Hp) (δ:List Sl) (σ:L2.St) (A:Nat → List Addr),(∀ j ∈ tS T,Y.io j = false) → SR X.K Y F H δ σ A → ∀ (x:V) (d:D) (δ':List Sl),Rp X.K F x d → Xl T d δ = some δ' → ∀ Q:L2.St → Hp → Prop,(∀ σ' A',But (tS T) σ σ' A A' → SR X.K Y F H δ' σ' A' → Q σ' H) → g x σ H Q
def GsV (X:Cx) (es:List Expr) (T:Tt):Prop :=
 ∃ g,PGs X es g ∧ ∀ (Y:Fx) (F H:Hp) (δ:List Sl) (σ:L2.St) (A:Nat → List Addr),(∀ j ∈ tS T,Y.io j = false) → SR X.K Y F H δ σ A → ∀ (xs:List V) (ds:List D) (δ':List Sl),Rps X.K F xs ds → Xi T ds δ = some δ' → ∀ Q:L2.St → Hp → Prop,(∀ σ' A',But (tS T) σ σ' A A' → SR X.K Y F H δ' σ' A' → Q σ' H) → g xs σ H Q
theorem Y8 {i:Nat} {x:Str} {pos:Pos} (T:Tg X i x):GV X (.Name x pos) (.nm i):=by
 refine ⟨_,pg_name T.nd T.at_ T.loc T.fn,fun Y F H δ σ A hY S x d δ' r e Q k=>?_⟩
 unfold Xl at e
 split at e
 ·rename_i hi
  cases e
  refine k _ _ ⟨fun j hj=>?_,fun j hj=>?_,fun j hj=>?_⟩ (S.putFz hi (hY i (by simp [tS])) r)
  ·rw [Qe fun c=>hj (by simp [tS,c])]
  ·exact Q02 fun c=>hj (by simp [tS,c])
  ·simp [tS] at hj
   subst hj
   exact Zq
 ·cases e
theorem Q4w:GsV X [] .nil:=by
 refine ⟨_,pgs_nil,fun Y F H δ σ A hY S xs ds δ' r e Q k=>?_⟩
 cases r with
 | nil =>
  unfold Xi at e
  cases e
  exact ⟨rfl,k _ _ ⟨fun _ _=>rfl,fun _ _=>rfl,fun j hj=>by simp [tS] at hj⟩ S⟩
 | cons _ _ =>
  unfold Xi at e
  cases e
theorem Q0v {a:Expr} {es:List Expr} {T U:Tt} (h1:GV X a T) (h2:GsV X es U) (hs:(assignEach (a :: es) X.env).map (·.2) = assign a X.env :: (assignEach es X.env).map (·.2):=by rfl):GsV X (a :: es) (.cons T U):=by
 obtain ⟨g,p,q⟩:=h1
 obtain ⟨g2,p2,q2⟩:=h2
 refine ⟨_,pgs_cons p p2 hs,fun Y F H δ σ A hY S xs ds δ' r e Q k=>?_⟩
 cases r with
 | nil =>
  unfold Xi at e
  cases e
 | cons h r =>
  rename_i v vs d ds
  unfold Xi at e
  cases e1:Xl T d δ with
  | none=>rw [e1] at e; cases e
  | some δ1 =>
   rw [e1] at e
   exact ⟨v,vs,rfl,q Y F H δ σ A (fun j hj=>hY j (Qf _ hj)) S v d δ1 h e1 _ fun σ' A' b S'=>q2 Y F H δ1 σ' A' (fun j hj=>hY j (Qm _ hj)) S' vs ds δ' r e Q fun σ2 A2 b2 S2=>k σ2 A2 (b.trans b2) S2⟩
theorem Q8j {es:List Expr} {k:Nat} {pos:Pos} {T:Tt} {n:Nat} (hc:X.calm = true) (h:GsV X es T) (hT:∀ i,T ≠ .nm i) (hn:(assignEach es X.env).length = n) (hlen:∀ ds δ δ',Xi T ds δ = some δ' → ds.length = n) (hst:(assignEach es X.env).findIdx? (·.1) = none:=by rfl):GV X (.Tuple es k pos) T:=by
 obtain ⟨g,p,q⟩:=h
 refine ⟨_,pg_tup hc p hn hst,fun Y F H δ σ A hY S x d δ' r e Q k=>?_⟩
 have e2:∃ ds,d = .tuple ds ∧ Xi T ds δ = some δ':=by
  cases T with
  | nm i=>exact absurd rfl (hT i)
  | nil =>
   unfold Xl at e
   cases d with
   | tuple ds=>exact ⟨ds,rfl,e⟩
   | _=>cases e
  | cons a b =>
   unfold Xl at e
   cases d with
   | tuple ds=>exact ⟨ds,rfl,e⟩
   | _=>cases e
 obtain ⟨ds,rfl,e2⟩:=e2
 cases r with
 | tup h1 r1 =>
  exact ⟨_,_,rfl,Same.sqt S.sub h1,by rw [r1.length]; exact hlen _ _ _ e2,q Y F H δ σ A hY S _ ds δ' r1 e2 Q k⟩
def Yd (K:PySem.W.Frag) (G H:Hp) (x:V) (H':Hp) (d:D):Prop :=
 (H' = H ∧ Rp K G x d) ∨ ∃ T xs es,H T = none ∧ H' = upd H T (.tup xs) ∧ x = .ref T ∧ d = .tuple es ∧ Rps K G xs es
structure Wk (K:PySem.W.Frag) (G E:Hp) (J:It) (ds:List D):Prop where
 go:∀ i H,i < ds.length → Same E H → J.go i H
 yld:∀ i H x H' d,Same E H → J.yld i H x H' → ds[i]? = some d → Yd K G H x H' d
 stop:∀ H,Same E H → J.stop ds.length H
def IV (X:Cx) (tg iter:Expr) (f:List Sl → Option (List D × List Sl)) (R M:List Nat):Prop :=
 ∃ wi,PI X tg iter wi ∧ ∀ (Y:Fx) (F H:Hp) (δ:List Sl) (σ:L2.St) (A:Nat → List Addr),SR X.K Y F H δ σ A → ∀ (ds:List D) (δ':List Sl),f δ = some (ds,δ') → ∀ Q:It → Hp → Prop,
  (∀ J F' H',Stp A M F H F' H' → SR X.K Y F' H' δ' σ A → Wk X.K F' (ex R A F' H') J ds → Q J H') → wi σ H Q
theorem PI.or {tg iter:Expr} {w1 w2:TI} (h1:PI X tg iter w1) (h2:PI X tg iter w2):PI X tg iter (fun σ H R=>w1 σ H R ∨ w2 σ H R) :=
 ⟨fun pins s σ H R I h=>h.elim (h1.run pins s σ H R I) (h2.run pins s σ H R I)⟩
def V9:D → Option (List D)
 | .list ds=>some ds
 | .tuple ds=>some ds
 | .str z=>some (z.cps.toList.map fun c=>.str ⟨#[c]⟩)
 | .dict ds=>some (ds.map (·.1))
 | _=>none
def fIt (fa:List Sl → Option (D × List Sl)):List Sl → Option (List D × List Sl):=fun δ=>(fa δ).bind fun p=>(V9 p.1).map fun ds=>(ds,p.2)
theorem Vw.listE {K:PySem.W.Frag} {Y:Fx} {F H:Hp} {δ:List Sl} {σ:L2.St} {A:Nat → List Addr} {R:List Nat} {v:V} {ds:List D} (S:SR K Y F H δ σ A) (h:Vw K F H A R v (.list ds)):∃ p xs,v = .ref p ∧ Z.ex R A F H p = some (.lst xs) ∧ Rps K F xs ds:=by
 rcases h with h | ⟨i,hi,p,e,eA,o⟩
 ·cases h with
  | lst h1 r=>exact ⟨_,_,rfl,Q05 S _ _ h1,r⟩
 ·obtain ⟨xs,h1,r⟩:=o
  exact ⟨p,xs,e,(if_pos ⟨i,hi,by rw [eA]; simp⟩:Z.ex R A F H p = H p).trans h1,r⟩
theorem Q7g {K:PySem.W.Frag} {G E:Hp} {a:Addr} {xs:List V} {ds:List D} (h:E a = some (.lst xs)) (r:Rps K G xs ds):Wk K G E (Itl K a) ds:=by
 refine ⟨fun i H hi s=>?_,fun i H x H' d s y e=>?_,fun H s=>?_⟩
 ·have:i < xs.length:=by rw [r.length]; exact hi
  exact ⟨xs,xs[i],SqL.of (s _ _ h),Qh this⟩
 ·obtain ⟨rfl,f⟩:=y
  obtain ⟨v,v1,v2⟩:=r.get e
  have:=f xs (SqL.of (s _ _ h))
  rw [v1] at this
  cases this
  exact .inl ⟨rfl,v2⟩
 ·exact ⟨xs,SqL.of (s _ _ h),by rw [r.length]; exact Q5 _⟩
theorem Q8p {K:PySem.W.Frag} {G E:Hp} {a:Addr} {xs:List V} {ds:List D} (h:SqT K E a xs) (r:Rps K G xs ds):Wk K G E (Itt K a) ds:=by
 refine ⟨fun i H hi s=>?_,fun i H x H' d s y e=>?_,fun H s=>?_⟩
 ·have:i < xs.length:=by rw [r.length]; exact hi
  exact ⟨xs,xs[i],Same.sqt s h,Qh this⟩
 ·obtain ⟨rfl,f⟩:=y
  obtain ⟨v,v1,v2⟩:=r.get e
  have:=f xs (Same.sqt s h)
  rw [v1] at this
  cases this
  exact .inl ⟨rfl,v2⟩
 ·exact ⟨xs,Same.sqt s h,by rw [r.length]; exact Q5 _⟩
theorem Q8n {K:PySem.W.Frag} {G E:Hp} {z:Str}:Wk K G E (Its z) (z.cps.toList.map fun c=>.str ⟨#[c]⟩):=by
 refine ⟨fun i H hi s=>?_,fun i H x H' d s y e=>?_,fun H s=>?_⟩
 ·simpa [Its] using hi
 ·obtain ⟨rfl,c,h1,rfl⟩:=y
  rw [Qn,Array.getElem?_toList,h1] at e
  cases e
  exact .inl ⟨rfl,.str _⟩
 ·show z.cps.size ≤ _
  simp
theorem RpK.key {K:PySem.W.Frag} {G:Hp}:∀ {kvs:List (Key × V)} {ds:List (D × D)} {i:Nat} {d:D},RpK K G kvs ds → (ds.map (·.1))[i]? = some d → ∃ k v,kvs[i]? = some (k,v) ∧ d = Q2d k
 | _,_,_,_,.nil,e=>by simp at e
 | _,_,0,_,.cons h r,e=>by simp at e; subst e; exact ⟨_,_,rfl,rfl⟩
 | _,_,i + 1,d,.cons h r,e=>by
  obtain ⟨k,v,h1,h2⟩:=RpK.key (i:=i) (d:=d) r (by simpa using e)
  exact ⟨k,v,by simpa using h1,h2⟩
theorem Q7u {K:PySem.W.Frag} {G:Hp}:∀ (k:Key),Rp K G (kV k) (Q2d k)
 | .inl i=>.int i
 | .inr x=>.str x
theorem RpK.len {K:PySem.W.Frag} {G:Hp}:∀ {kvs:List (Key × V)} {ds:List (D × D)},RpK K G kvs ds → kvs.length = ds.length
 | _,_,.nil=>rfl
 | _,_,.cons _ r=>congrArg (· + 1) r.len
theorem Q7V {K:PySem.W.Frag} {G E:Hp} {a:Addr} {o:Obj} {kvs:List (Key × V)} {ds:List (D × D)} (h:E a = some (.frz o (.dK kvs))) (r:RpK K G kvs ds):Wk K G E (Itk a o kvs) (ds.map (·.1)):=by
 have hl:=r.len
 refine ⟨fun i H hi s=>?_,fun i H x H' d s y e=>?_,fun H s=>?_⟩
 ·exact ⟨s _ _ h,by rw [hl]; simpa using hi⟩
 ·obtain ⟨rfl,k,v,h1,rfl⟩:=y
  obtain ⟨k',v',h2,rfl⟩:=r.key e
  rw [h1] at h2
  cases h2
  exact .inl ⟨rfl,Q7u _⟩
 ·exact ⟨s _ _ h,by rw [hl]; simp⟩
theorem Q2J {tg iter:Expr} {fa} {R M:List Nat} (h:EV X iter fa R M):IV X tg iter (fIt fa) R M:=by
 obtain ⟨t,p,q⟩:=h
 refine ⟨_,PI.or (pi_list p) (PI.or (pi_tup p) (PI.or (pi_str p) (pi_keys p))),fun Y F H δ σ A S ds δ' e Q k=>?_⟩
 unfold fIt at e
 cases e1:fa δ with
 | none=>rw [e1] at e; cases e
 | some w =>
  obtain ⟨d,δ1⟩:=w
  rw [e1] at e
  simp only [Q1] at e
  unfold V9 at e
  split at e
  ·cases e
   refine .inl (q Y F H δ σ A S _ _ e1 _ fun v F1 H1 st S1 r=>?_)
   obtain ⟨a,xs,rfl,h1,h2⟩:=r.listE S1
   exact ⟨a,rfl,⟨xs,SqL.of (Q06 S1 _ _ h1)⟩,k _ F1 H1 st S1 (Q7g h1 h2)⟩
  ·cases e
   refine .inr (.inl (q Y F H δ σ A S _ _ e1 _ fun v F1 H1 st S1 r=>?_))
   obtain ⟨a,xs,rfl,h0,h1,h2⟩:=r.tup S1
   exact ⟨a,rfl,⟨xs,h1⟩,k _ F1 H1 st S1 (Q8p (Same.sqt (Q05 S1) h0) h2)⟩
  ·cases e
   refine .inr (.inr (.inl (q Y F H δ σ A S _ _ e1 _ fun v F1 H1 st S1 r=>?_)))
   exact ⟨_,r.str,k _ F1 H1 st S1 Q8n⟩
  ·cases e
   refine .inr (.inr (.inr (q Y F H δ σ A S _ _ e1 _ fun v F1 H1 st S1 r=>?_)))
   have r':=r.ex S1
   cases r' with
   | dic h1 r2 =>
    obtain ⟨p',o',kvs',e3,h3,r3⟩:=r.dict S1
    cases e3
    rw [Q06 S1 _ _ h1] at h3
    cases h3
    exact ⟨_,_,rfl,.inl ⟨_,Q06 S1 _ _ h1,k _ F1 H1 st S1 (Q7V h1 r3)⟩⟩
  ·cases e
def Q2b (lo:Int) (n:Nat):List D:=(Qy n).map fun i=>.int (lo + (i:Nat))
theorem Q1h {lo:Int} {n:Nat}:(Q2b lo n).length = n:=by simp [Q2b]
theorem Q8S {K:PySem.W.Frag} {G E:Hp} {lo:Int} {n:Nat}:Wk K G E (Itr lo n) (Q2b lo n):=by
 refine ⟨fun i H hi s=>?_,fun i H x H' d s y e=>?_,fun H s=>?_⟩
 ·rw [Q1h] at hi
  exact hi
 ·obtain ⟨rfl,rfl⟩:=y
  unfold Q2b at e
  rw [Qn] at e
  cases e1:(Qy n)[i]? with
  | none=>rw [e1] at e; cases e
  | some j =>
   rw [e1] at e
   have:j = i:=by
    have:=Qg.mp e1
    obtain ⟨_,h⟩:=this
    simpa using h.symm
   subst this
   cases e
   exact .inl ⟨rfl,.int _⟩
 ·rw [Q1h]
  exact Q5 _
def Vd (i:Int):Bool:=decide (-(2 ^ 62) ≤ i) && decide (i < 2 ^ 62)
def Q0j (f:List Sl → Option (List D × List Sl)):List Sl → Option (List D × List Sl):=fun δ=>(f δ).bind fun p=>match p.1 with
 | [.int j]=>if Vd j then some (Q2b 0 j.toNat,p.2) else none
 | [.int i,.int j]=>if Vd i && Vd j then some (Q2b i (j - i).toNat,p.2) else none
 | _=>none
theorem Vo {tg a:Expr} {f} {R M:List Nat} {p pos:Pos} (hg:Gl X "range") (hm:X.mg "range" = none) (h:AV X [a] f R M) (hs:starEach [a] X.env = [(false,eval a X.env)]:=by rfl) (h1:∀ δ ds δ',f δ = some (ds,δ') → ds.length = 1):IV X tg (.Call (.Name "range" p) [a] [] pos) (Q0j f) [] M:=by
 obtain ⟨t,pa,q⟩:=h
 refine ⟨_,pi_range1 hg hm pa hs,fun Y F H δ σ A S ds δ' e Q k=>?_⟩
 unfold Q0j at e
 cases e1:f δ with
 | none=>rw [e1] at e; cases e
 | some w =>
  obtain ⟨es,δ1⟩:=w
  have hl:=h1 _ _ _ e1
  rw [e1] at e
  simp only [Q1] at e
  split at e
  ·split at e
   ·rename_i c
    cases e
    simp only [Vd,Q3,decide_eq_true_eq] at c
    refine q Y F H δ σ A S _ _ e1 _ fun vs F1 H1 st S1 r=>?_
    obtain ⟨v,rfl,rv⟩:=r.one
    exact ⟨_,by rw [rv.int],c.1,c.2,k _ F1 H1 st S1 Q8S⟩
   ·cases e
  ·simp at hl
  ·cases e
def Q0I (T:Tt) (b:List Sl → Option Out):List D → List Sl → Option Out
 | [],δ=>some (.nx δ)
 | d :: r,δ=>(Xl T d δ).bind fun δ1=>(b δ1).bind fun o=>match o with
  | .nx δ2=>Q0I T b r δ2
  | .ct δ2=>Q0I T b r δ2
  | .rt d' δ2=>some (.rt d' δ2)
def Kz (T:Tt) (f:List Sl → Option (List D × List Sl)) (b:List Sl → Option Out):List Sl → Option Out:=fun δ=>(f δ).bind fun p=>Q0I T b p.1 p.2
theorem Q13 {fr:Fr} {tg iter:Expr} {body:List Stmt} {pos:Pos} {T:Tt} {f} {M:List Nat} {b} (hp:PassesOwn (model X.prog X.w) X.A X.env X.xe) (hc:X.calm = true) (hi:IV X tg iter f [] M) (hg:GV X tg T) (hT:∀ j ∈ tS T,io j = false:=by decide) (hb:BV X io fr body b) (hs:∀ x,foldedSetIterable iter X.env x = pure x:=by intro _; rfl):SV X io fr (.For tg iter body [] pos) (Kz T f b):=by
 obtain ⟨wi,pw,qi⟩:=hi
 obtain ⟨g,pg,qg⟩:=hg
 obtain ⟨tb,pb,qb⟩:=hb
 refine ⟨_,ps_for hp hc pw pg pb hs,fun Y F H δ σ A hY S o e D k=>?_⟩
 unfold Kz at e
 cases e1:f δ with
 | none=>rw [e1] at e; cases e
 | some w =>
  obtain ⟨ds,δ1⟩:=w
  rw [e1] at e
  simp only [Q1] at e
  refine qi Y F H δ σ A S ds δ1 e1 _ fun J F1 H1 st S1 wk=>?_
  rw [Q6A] at wk
  refine ⟨fun i m σ' H'=>m = ds.length - i ∧ i ≤ ds.length ∧ ∃ F' A' δ',Same F1 F' ∧ SR X.K Y F' H' δ' σ' A' ∧ Q0I T b (ds.drop i) δ' = some o,⟨ds.length,by simp,J3 _,F1,A,δ1,Same.refl _,S1,by rw [List.drop_zero]; exact e⟩,?_⟩
  rintro i m σ' H' ⟨rfl,hi,F',A',δ',sF,S',ef⟩
  by_cases hlt:i < ds.length
  ·have hd:ds.drop i = ds[i] :: ds.drop (i + 1):=List.drop_eq_getElem_cons hlt
   rw [hd] at ef
   unfold Q0I at ef
   cases e2:Xl T ds[i] δ' with
   | none=>rw [e2] at ef; cases ef
   | some δ2 =>
    rw [e2] at ef
    simp only [Q1] at ef
    cases e3:b δ2 with
    | none=>rw [e3] at ef; cases ef
    | some o1 =>
     rw [e3] at ef
     simp only [Q1] at ef
     refine .inr ⟨wk.go i H' hlt (sF.trans S'.sub),fun σ2 H2=>∃ F2 A2 δ3,Same F' F2 ∧ SR X.K Y F2 H2 δ3 σ2 A2 ∧ Q0I T b (ds.drop (i + 1)) δ3 = some o,fun σ2 H2 ⟨F2,A2,δ3,s2,S2,e4⟩=>⟨ds.length - (i + 1),by omega,rfl,by omega,F2,A2,δ3,sF.trans s2,S2,e4⟩,fun x H2 y=>?_⟩
     have main:∀ (F2:Hp),Same F' F2 → SR X.K Y F2 H2 δ' σ' A' → Rp X.K F2 x ds[i] → g x σ' H2 fun σ2 H2=>tb { D with nx:=fun σ2 H2=>∃ F2 A2 δ3,Same F' F2 ∧ SR X.K Y F2 H2 δ3 σ2 A2 ∧ Q0I T b (ds.drop (i + 1)) δ3 = some o,ct:=fun σ2 H2=>∃ F2 A2 δ3,Same F' F2 ∧ SR X.K Y F2 H2 δ3 σ2 A2 ∧ Q0I T b (ds.drop (i + 1)) δ3 = some o,bk:=D.nx } σ2 H2:=by
      intro F2 s2 S2 r2
      refine qg Y F2 H2 δ' σ' A' (fun j hj=>by rw [hY]; exact hT j hj) S2 x _ δ2 r2 e2 _ fun σ3 A3 _ S3=>?_
      refine qb Y F2 H2 δ2 σ3 A3 hY S3 o1 e3 _ ?_
      cases o1 with
      | nx δ3=>exact fun σ4 F4 H4 A4 s4 S4=>⟨F4,A4,δ3,s2.trans s4,S4,ef⟩
      | ct δ3=>exact fun σ4 F4 H4 A4 s4 S4=>⟨F4,A4,δ3,s2.trans s4,S4,ef⟩
      | rt d' δ3 =>
       cases ef
       exact fun v σ4 F4 H4 A4 s4 S4 r=>k v σ4 F4 H4 A4 (st.f.trans (sF.trans (s2.trans s4))) S4 r
     rcases wk.yld i H' x H2 _ (sF.trans S'.sub) y (Qh hlt) with ⟨rfl,r⟩ | ⟨U,xs,es,nU,rfl,rfl,e5,r⟩
     ·exact main F' (Same.refl _) S' (r.mono sF)
     ·have l:=Stp.laid (M:=[]) (o:=.tup xs) S' nU
      refine main _ l.f (S'.laid nU) ?_
      rw [e5]
      exact .tup (.inl (.inl upd_same)) (r.mono (sF.trans l.f))
  ·have hi2:i = ds.length:=by omega
   subst hi2
   rw [List.drop_length] at ef
   unfold Q0I at ef
   cases ef
   exact .inl ⟨wk.stop H' (sF.trans S'.sub),k σ' F' H' A' (st.f.trans sF) S'⟩
end
end Z
namespace Z
open PySem PySem.Spec PyProof.Rows L2
def tEV (K:PySem.W.Frag) (f:List Sl → Option (D × List Sl)) (R M:List Nat):TE:=fun σ H Q =>
 ∃ (Y:Fx) (F:Hp) (δ:List Sl) (A:Nat → List Addr) (d:D) (δ':List Sl),SR K Y F H δ σ A ∧ f δ = some (d,δ') ∧ ∀ v F' H',Stp A M F H F' H' → SR K Y F' H' δ' σ A → Vw K F' H' A R v d → Q v H'
def tTV (K:PySem.W.Frag) (f:List Sl → Option (Bool × List Sl)) (M:List Nat):TT:=fun σ H Q =>
 ∃ (Y:Fx) (F:Hp) (δ:List Sl) (A:Nat → List Addr) (b:Bool) (δ':List Sl),SR K Y F H δ σ A ∧ f δ = some (b,δ') ∧ ∀ F' H',Stp A M F H F' H' → SR K Y F' H' δ' σ A → Q b H'
def tGV (K:PySem.W.Frag) (T:Tt):TG:=fun x σ H Q =>
 ∃ (Y:Fx) (F:Hp) (δ:List Sl) (A:Nat → List Addr) (d:D) (δ':List Sl),(∀ j ∈ tS T,Y.io j = false) ∧ SR K Y F H δ σ A ∧ Rp K F x d ∧ Xl T d δ = some δ' ∧ ∀ σ' A',But (tS T) σ σ' A A' → SR K Y F H δ' σ' A' → Q σ' H
theorem EV.pe {X:Cx} {e:Expr} {f R M} (h:EV X e f R M):PE X e (tEV X.K f R M):=by
 obtain ⟨t,p,q⟩:=h
 refine ⟨fun pins s σ H Q I z=>?_⟩
 obtain ⟨Y,F,δ,A,d,δ',S,e1,k⟩:=z
 exact p.run pins s σ H Q I (q Y F H δ σ A S d δ' e1 Q k)
theorem TV.pt {X:Cx} {e:Expr} {f M} (h:TV X e f M):PT X e (tTV X.K f M):=by
 obtain ⟨t,p,q⟩:=h
 refine ⟨fun pins s σ H Q I z=>?_⟩
 obtain ⟨Y,F,δ,A,d,δ',S,e1,k⟩:=z
 exact p.run pins s σ H Q I (q Y F H δ σ A S d δ' e1 Q k)
theorem GV.pg {X:Cx} {e:Expr} {T:Tt} (h:GV X e T):PG X e (tGV X.K T):=by
 obtain ⟨g,p,q⟩:=h
 refine ⟨fun pins s σ H v u Q I r z=>?_⟩
 obtain ⟨Y,F,δ,A,d,δ',hY,S,r1,e1,k⟩:=z
 exact p.run pins s σ H v u Q I r (q Y F H δ σ A hY S v d δ' r1 e1 Q k)
theorem Q2y {σ:L2.St} {j:Nat}:∀ {vs:List Nat},j ∈ vs → j < σ.length → (wipe σ vs)[j]? = some none
 | v :: vs,h,hj=>by
  unfold wipe
  by_cases c:v = j
  ·subst c
   exact Qk (by rw [wipe_length]; exact hj)
  ·rw [Qe c]
   exact Q2y ((Q7.mp h).resolve_left fun z=>c z.symm) hj
theorem Yx {σ:L2.St} {j:Nat}:∀ {vs:List Nat},j ∉ vs → (wipe σ vs)[j]? = σ[j]?
 | [],_=>rfl
 | v :: vs,h=>by
  simp only [Q7,not_or] at h
  unfold wipe
  rw [Qe (Ne.symm h.1)]
  exact Yx h.2
theorem Q4t {σ σ':L2.St} {vs:List Nat} (hl:σ'.length = σ.length) (h:∀ j,j ∉ vs → σ'[j]? = σ[j]?):wipe σ' vs = wipe σ vs:=by
 apply List.ext_getElem?
 intro j
 by_cases c:j ∈ vs
 ·by_cases cl:j < σ.length
  ·rw [Q2y c cl,Q2y c (by omega)]
  ·rw [Qw (by rw [wipe_length]; omega),Qw (by rw [wipe_length]; omega)]
 ·rw [Yx c,Yx c,h j c]
theorem Vh {δ:List Sl}:∀ {vs:List Nat},(Xm vs δ).length = δ.length
 | []=>rfl
 | v :: vs=>by
  show ((Xm vs δ).set v .no).length = _
  rw [J8,Vh]
theorem K5 {δ:List Sl} {j:Nat}:∀ {vs:List Nat},j ∈ vs → j < δ.length → (Xm vs δ)[j]? = some .no
 | v :: vs,h,hj=>by
  show ((Xm vs δ).set v .no)[j]? = _
  by_cases c:v = j
  ·subst c
   exact Qk (by rw [Vh]; exact hj)
  ·rw [Qe c]
   exact K5 ((Q7.mp h).resolve_left fun z=>c z.symm) hj
theorem Wa {δ:List Sl} {j:Nat}:∀ {vs:List Nat},j ∉ vs → (Xm vs δ)[j]? = δ[j]?
 | [],_=>rfl
 | v :: vs,h=>by
  simp only [Q7,not_or] at h
  show ((Xm vs δ).set v .no)[j]? = _
  rw [Qe (Ne.symm h.1)]
  exact Wa h.2
def noS (vs:List Nat) (δ:List Sl):Bool:=vs.all fun j=>match δ[j]? with
 | some .no=>true
 | _=>false
section
variable {K:PySem.W.Frag} {Y:Fx} {F H:Hp} {δ:List Sl} {σ σ':L2.St} {A:Nat → List Addr} {vs:List Nat}
theorem Q0b (h:noS vs δ = true) {j:Nat} (hj:j ∈ vs):δ[j]? = some .no:=by
 have:=Qi.mp h j hj
 split at this
 ·assumption
 ·cases this
theorem Q4z {σ1 σ2:L2.St} {fs:List (Str × Nat)} (h:∀ q ∈ fs,σ1[q.2]? = σ2[q.2]?):Q4a σ1 fs = Q4a σ2 fs:=by
 unfold Q4a
 induction fs with
 | nil=>rfl
 | cons q r ih =>
  rw [J1,J1,h q Qd,ih fun x hx=>h x (Q9 _ hx)]
theorem SR.wiped (S:SR K Y F H δ σ' A) (hw:wipe σ' vs = wipe σ vs) (hA:∀ j ∈ vs,A j = []) (hio:∀ j ∈ vs,Y.io j = false) (hl:∀ j ∈ vs,j < δ.length):SR K Y F H (Xm vs δ) (wipe σ vs) A:=by
 have hlen:(wipe σ vs).length = σ'.length:=by rw [← hw,wipe_length]
 have out:∀ j,j ∉ vs → (wipe σ vs)[j]? = σ'[j]?:=fun j hj=>by rw [← hw,Yx hj]
 refine ⟨by rw [Vh,hlen]; exact S.len,fun j t e=>?_,fun j e=>?_,S.dis,S.hid,S.new,S.sub,fun j h1=>?_,S.ioA,S.kp,S.nw,S.f0,S.lio,fun j c fs e=>?_,fun j hj=>?_⟩
 ·by_cases c:j ∈ vs
  ·rw [K5 c (hl j c)] at e
   cases e
   exact hA j c
  ·rw [Wa c] at e
   rw [out j c]
   exact S.slot j t e
 ·by_cases c:j ∈ vs
  ·exact hA j c
  ·rw [Wa c] at e
   exact S.out j e
 ·have c:j ∉ vs:=fun c=>by rw [S.nlt (hio j c)] at h1; cases h1
  rw [out j c]
  exact S.fix j h1
 ·by_cases c2:j ∈ vs
  ·rw [K5 c2 (hl j c2)] at e
   cases e
  ·rw [Wa c2] at e
   rw [out j c2]
   obtain ⟨h1,h2⟩:=S.ob j c fs e
   refine ⟨h1,fun p C dx fvs e1 e2=>?_⟩
   rw [h2 p C dx fvs e1 e2]
   exact Q4z fun q hq=>(out q.2 fun z=>by have:=h1 q hq; rw [S.nvt (hio q.2 z)] at this; cases this).symm
 ·rw [Wa fun z=>by rw [hio j z] at hj; cases hj]
  exact S.vno j hj
theorem SR.noA (S:SR K Y F H δ σ A) (h:noS vs δ = true):∀ j ∈ vs,A j = []:=fun j hj=>S.slot j _ (Q0b h hj)
theorem Q5S (h:noS vs δ = true):Xm vs δ = δ:=by
 apply List.ext_getElem?
 intro j
 by_cases c:j ∈ vs
 ·rw [Q0b h c,K5 c (Qg.mp (Q0b h c)).1]
 ·rw [Wa c]
end
def V6 (T:Tt) (vs:List Nat) (c:List Sl → Option (Bool × List Sl)) (f:List Sl → Option (D × List Sl)):List D → List Sl → Option (List D × List Sl)
 | [],δ=>some ([],δ)
 | d :: r,δ=>(Xl T d δ).bind fun δ1=>(c δ1).bind fun p=>match p.1 with
  | true=>(f p.2).bind fun q=>(V6 T vs c f r (Xm vs q.2)).map fun z=>(q.1 :: z.1,z.2)
  | false=>V6 T vs c f r (Xm vs p.2)
def fLc (T:Tt) (vs:List Nat) (it:List Sl → Option (List D × List Sl)) (c:List Sl → Option (Bool × List Sl)) (f:List Sl → Option (D × List Sl)):List Sl → Option (D × List Sl):=fun δ=>(it δ).bind fun p =>
 if noS vs p.2 && decide (p.1.length ≤ sizeLine) then (V6 T vs c f p.1 p.2).map fun q=>(.list q.1,q.2) else none
def Q2a:List Sl → Option (Bool × List Sl):=fun δ=>some (true,δ)
def TsV (X:Cx) (es:List Expr) (f:List Sl → Option (Bool × List Sl)) (M:List Nat):Prop :=
 ∃ t,PTs X es t ∧ ∀ (Y:Fx) (F H:Hp) (δ:List Sl) (σ:L2.St) (A:Nat → List Addr),SR X.K Y F H δ σ A → ∀ (b:Bool) (δ':List Sl),f δ = some (b,δ') → ∀ Q:Bool → Hp → Prop,
  (∀ F' H',Stp A M F H F' H' → SR X.K Y F' H' δ' σ A → Q b H') → t σ H Q
theorem Q0o {X:Cx}:TsV X [] Q2a []:=by
 refine ⟨_,pts_nil,fun Y F H δ σ A S b δ' e Q k=>?_⟩
 cases e
 exact k F H Stp.refl S
theorem Q4F {X:Cx} {e:Expr} {f M} (h:TV X e f M):TsV X [e] f M:=by
 obtain ⟨t,p,q⟩:=h
 exact ⟨t,pts_one p,q⟩
theorem TsV.pts {X:Cx} {es:List Expr} {f M} (h:TsV X es f M):PTs X es (tTV X.K f M):=by
 obtain ⟨t,p,q⟩:=h
 refine ⟨fun pins s σ H Q I z=>?_⟩
 obtain ⟨Y,F,δ,A,d,δ',S,e1,k⟩:=z
 exact p.run pins s σ H Q I (q Y F H δ σ A S d δ' e1 Q k)
abbrev Bk (X:Cx) (scope:Scope) (s:Shared) (H:Hp) (C:Addr) (cl:List (Str × Addr)) (fp:List Addr):Cx:=X.blk s H scope (compEnvC scope cl C X.env) fp
theorem Q4o {X:Cx} {T:Tt} {vs:List Nat} {f c fe} {R M Mt Me:List Nat} {wi:TI}
  (hi:∀ (Y:Fx) (F H:Hp) (δ:List Sl) (σ:L2.St) (A:Nat → List Addr),SR X.K Y F H δ σ A → ∀ (ds:List D) (δ':List Sl),f δ = some (ds,δ') → ∀ Q:It → Hp → Prop,
   (∀ J F' H',Stp A M F H F' H' → SR X.K Y F' H' δ' σ A → Wk X.K F' (ex R A F' H') J ds → Q J H') → wi σ H Q)
  (hT:∀ j ∈ tS T,j ∈ vs) (dj:∀ i ∈ R,i ∉ Mt ++ Me:=by decide) (Y:Fx) (F H:Hp) (δ:List Sl) (σ:L2.St) (A:Nat → List Addr) (S:SR X.K Y F H δ σ A) (z:D) (δ':List Sl) (e:fLc T vs f c fe δ = some (z,δ')) (Q:VK)
  (k:∀ p F' H',Stp A (M ++ (Mt ++ Me)) F H F' H' → SR X.K Y F' H' δ' σ A → H p = none → F' p = none → K8 X.K F' H' p z → Q (.ref p) H') :
  tLc wi (tGV X.K T) (tTV X.K c Mt) (tEV X.K fe [] Me) vs σ H Q:=by
 unfold fLc at e
 cases e1:f δ with
 | none=>rw [e1] at e; cases e
 | some w =>
  obtain ⟨ds,δ1⟩:=w
  rw [e1] at e
  simp only [Q1] at e
  split at e
  ·rename_i cn
   rw [Q3,decide_eq_true_eq] at cn
   obtain ⟨cn,csz⟩:=cn
   cases e2:V6 T vs c fe ds δ1 with
   | none=>rw [e2] at e; cases e
   | some w =>
    obtain ⟨zs,δ2⟩:=w
    rw [e2] at e
    cases e
    refine hi Y F H δ σ A S ds δ1 e1 _ fun J F1 H1 st S1 wk=>?_
    intro p hp
    have hpF:F1 p = none:=S1.sub.free hp
    have hA:∀ j ∈ vs,A j = []:=S1.noA cn
    have hio:∀ j ∈ vs,Y.io j = false:=fun j hj=>by
     cases q:Y.io j with
     | false=>rfl
     | true=>exact absurd (Q0b cn hj) (S1.vno j q)
    have hl1:∀ j ∈ vs,j < δ1.length:=fun j hj=>(Qg.mp (Q0b cn hj)).1
    have Sw:SR X.K Y F1 H1 δ1 (wipe σ vs) A:=by
     have q:=S1.wiped (vs:=vs) (σ:=σ) rfl hA hio hl1
     rw [Q5S cn] at q
     exact q
    -- the invariant
    let Inv_:Nat → Hp → Prop:=fun i H'=>∃ F' δ' zs' acc,Stp A (Mt ++ Me) F1 H1 F' H' ∧ SR X.K Y F' H' δ' (wipe σ vs) A ∧ H' p = some (.lst acc) ∧ F' p = none ∧ Rps X.K F' acc zs' ∧ acc.length ≤ i ∧ δ'.length = δ1.length ∧ noS vs δ' = true ∧
     ∃ zr,V6 T vs c fe (ds.drop i) δ' = some (zr,δ2) ∧ zs = zs' ++ zr
    have start:Inv_ 0 (upd H1 p (.lst [])):=⟨F1,δ1,[],[],Stp.laidO hp,Sw.laidO hp,upd_same,hpF,.nil,Q5 _,rfl,cn,zs,by rw [List.drop_zero]; exact e2,rfl⟩
    have seen:∀ {F' H' δ'},Stp A (Mt ++ Me) F1 H1 F' H' → SR X.K Y F' H' δ' (wipe σ vs) A → Same (ex R A F1 H1) H':=fun {F' H' δ'} st' S' a o ea=>by
     unfold ex at ea
     by_cases ca:∃ i ∈ R,a ∈ A i
     ·rw [if_pos ca] at ea
      obtain ⟨i,hi,ha⟩:=ca
      refine st'.kp a o ea fun j hj hz=>?_
      have:=S1.dis j i a hz ha
      subst this
      exact dj _ hi hj
     ·rw [if_neg ca] at ea
      exact S'.sub a o (st'.f a o ea)
    refine ⟨fun i m H'=>m = ds.length - i ∧ i ≤ ds.length ∧ Inv_ i H',⟨ds.length,by simp,J3 _,start⟩,?_⟩
    rintro i m H' ⟨rfl,hi,F',δ',zs',acc,st',S',hD,hDF,ra,hal,hl,hno,zr,ec,ezs⟩
    have nA:∀ j,p ∉ A j:=fun j hj=>S1.isSome hj hp
    by_cases hlt:i < ds.length
    ·have hd:ds.drop i = ds[i] :: ds.drop (i + 1):=List.drop_eq_getElem_cons hlt
     rw [hd] at ec
     unfold V6 at ec
     cases e3:Xl T ds[i] δ' with
     | none=>rw [e3] at ec; cases ec
     | some δ3 =>
      rw [e3] at ec
      simp only [Q1] at ec
      cases e4:c δ3 with
      | none=>rw [e4] at ec; cases ec
      | some w =>
       obtain ⟨b,δ4⟩:=w
       rw [e4] at ec
       simp only [Q1] at ec
       refine .inr ⟨wk.go i H' hlt (seen st' S'),fun H2=>Inv_ (i + 1) H2,fun H2 h=>⟨ds.length - (i + 1),by omega,rfl,by omega,h⟩,fun x H2 y=>?_⟩
       have main:∀ F2,Stp A (Mt ++ Me) F1 H1 F2 H2 → Same F' F2 → SR X.K Y F2 H2 δ' (wipe σ vs) A → H2 p = some (.lst acc) → F2 p = none → Rp X.K F2 x ds[i] →
         tGV X.K T x (wipe σ vs) H2 fun σ2 H2=>wipe σ2 vs = wipe σ vs ∧ tTV X.K c Mt σ2 H2 fun b H3 =>
          if b = true then tEV X.K fe [] Me σ2 H3 fun y H4=>∃ acc,H4 p = some (.lst acc) ∧ acc.length < sizeLine ∧ Inv_ (i + 1) (upd H4 p (.lst (acc ++ [y]))) else Inv_ (i + 1) H3:=by
        intro F2 st2 s2 S2 hD2 hF2 r2
        refine ⟨Y,F2,δ',A,ds[i],δ3,fun j hj=>hio j (hT j hj),S2,r2,e3,fun σ3 A3 bt S3=>?_⟩
        have eA:A3 = A:=by
         funext j
         by_cases c:j ∈ tS T
         ·rw [bt.e j c,hA j (hT j c)]
         ·exact bt.a j c
        subst eA
        have hl3:σ3.length = (wipe σ vs).length:=by
         rw [← S3.len,← S2.len]
         exact Q0m e3
        have hw:wipe σ3 vs = wipe σ vs:=by
         have q:wipe σ3 vs = wipe (wipe σ vs) vs:=Q4t hl3 fun j hj=>bt.s j fun z=>hj (hT j z)
         rw [q]
         exact Q4t (wipe_length _ _) fun j hj=>Yx hj
        refine ⟨hw,Y,F2,δ3,A3,b,δ4,S3,e4,fun F3 H3 st3 S4=>?_⟩
        have st3':=(st2.trans S2 st3).mono (M':=Mt ++ Me) fun j hj=>by
         rcases Qo.mp hj with z | z
         ·exact z
         ·exact Qf _ z
        have hD3:H3 p = some (.lst acc):=st3.kp p _ hD2 fun j _ hz=>nA j hz
        have hF3:F3 p = none:=by
         cases q:F3 p with
         | none=>rfl
         | some o =>
          have:=st3.nw p hF2 (by rw [q]; simp)
          rw [hD2] at this
          cases this
        have hl4:δ4.length = δ1.length:=by
         rw [S4.len,hl3,← S2.len]
         exact hl
        have hls4:∀ j ∈ vs,j < δ4.length:=fun j hj=>by rw [hl4]; exact hl1 j hj
        cases b with
        | false =>
         refine iteF ⟨F3,Xm vs δ4,zs',acc,st3',S4.wiped hw hA hio hls4,hD3,hF3,ra.mono (s2.trans st3.f),by omega,by rw [Vh]; exact hl4,?_,zr,ec,ezs⟩
         exact Qi.mpr fun j hj=>by rw [K5 hj (hls4 j hj)]
        | true =>
         refine iteT ?_
         simp only at ec
         cases e5:fe δ4 with
         | none=>rw [e5] at ec; cases ec
         | some w =>
          obtain ⟨d,δ5⟩:=w
          rw [e5] at ec
          simp only [Q1] at ec
          cases e6:V6 T vs c fe (ds.drop (i + 1)) (Xm vs δ5) with
          | none=>rw [e6] at ec; cases ec
          | some w =>
           obtain ⟨zr',δ6⟩:=w
           rw [e6] at ec
           simp only [Q6,J2.injEq,Prod.mk.injEq] at ec
           obtain ⟨rfl,rfl⟩:=ec
           refine ⟨Y,F3,δ4,A3,d,δ5,S4,e5,fun v F4 H4 st4 S5 r4=>?_⟩
           have st4':=(st3'.trans S4 st4).mono (M':=Mt ++ Me) fun j hj=>by
            rcases Qo.mp hj with z | z
            ·exact z
            ·exact Qm _ z
           have hD4:H4 p = some (.lst acc):=st4.kp p _ hD3 fun j _ hz=>nA j hz
           have hF4:F4 p = none:=by
            cases q:F4 p with
            | none=>rfl
            | some o =>
             have:=st4.nw p hF3 (by rw [q]; simp)
             rw [hD3] at this
             cases this
           have hl5:δ5.length = δ1.length:=by
            rw [S5.len,hl3,← S2.len]
            exact hl
           have hls5:∀ j ∈ vs,j < δ5.length:=fun j hj=>by rw [hl5]; exact hl1 j hj
           have Sf:SR X.K Y F4 (upd H4 p (.lst (acc ++ [v]))) δ5 σ3 A3:=S5.upd_free hF4 nA (by
            cases q:Y.H0 p with
            | none=>rfl
            | some o=>rw [S1.fresh0 hp] at q; cases q)
           refine ⟨acc,hD4,by omega,F4,Xm vs δ5,zs' ++ [d],acc ++ [v],?_,Sf.wiped hw hA hio hls5,upd_same,hF4,((ra.mono ((s2.trans st3.f).trans st4.f)).append (.cons r4.nil .nil)),by rw [J4]; simp; omega,by rw [Vh]; exact hl5,?_,zr',e6,by rw [ezs,List.append_assoc]; rfl⟩
           ·exact ⟨st4'.f,st4'.nw,fun a o ea hn=>by rw [upd_ne (ne_of_none ea hp)]; exact st4'.kp a o ea hn⟩
           ·exact Qi.mpr fun j hj=>by rw [K5 hj (hls5 j hj)]
       have sE:=seen st' S'
       rcases wk.yld i H' x H2 _ sE y (Qh hlt) with ⟨rfl,r⟩ | ⟨U,xs,es,nU,rfl,rfl,e5,r⟩
       ·exact main F' st' (Same.refl _) S' hD hDF (r.mono st'.f)
       ·have l:=Stp.laid (M:=[]) (o:=.tup xs) S' nU
        have npU:p ≠ U:=ne_of_none hD nU
        refine main _ (Yo S' st' l) l.f (S'.laid nU) (by rw [upd_ne npU]; exact hD) (by rw [upd_ne npU]; exact hDF) ?_
        rw [e5]
        exact .tup (.inl (.inl upd_same)) (r.mono (st'.f.trans l.f))
    ·have hi2:i = ds.length:=by omega
     subst hi2
     rw [List.drop_length] at ec
     unfold V6 at ec
     simp only [J2.injEq,Prod.mk.injEq] at ec
     obtain ⟨rfl,rfl⟩:=ec
     rw [Qx] at ezs
     subst ezs
     refine .inl ⟨wk.stop H' (seen st' S'),k p F' H' (st.trans S1 st') ?_ (Q9j st S1 hp) hDF ⟨acc,hD,ra⟩⟩
     -- the outer slots again
     refine ⟨by rw [S'.len,wipe_length],fun j t et=>?_,S'.out,S'.dis,S'.hid,S'.new,S'.sub,fun j h1=>?_,S'.ioA,S'.kp,S'.nw,S'.f0,S'.lio,fun j c0 fs0 eo=>?_,S'.vno⟩
     ·by_cases cj:j ∈ vs
      ·rw [Q0b hno cj] at et
       cases et
       exact hA j cj
      ·have:=S'.slot j t et
       rw [Yx cj] at this
       exact this
     ·have cj:j ∉ vs:=fun z=>by rw [S1.nlt (hio j z)] at h1; cases h1
      have:=S'.fix j h1
      rw [Yx cj] at this
      exact this
     ·have cj:j ∉ vs:=fun z=>by
       rw [Q0b hno z] at eo
       cases eo
      obtain ⟨h1,h2⟩:=S'.ob j c0 fs0 eo
      rw [Yx cj] at h2
      refine ⟨h1,fun p0 C0 dx0 fvs0 e10 e20=>?_⟩
      rw [h2 p0 C0 dx0 fvs0 e10 e20]
      exact Q4z fun q hq=>Yx fun z=>by have:=h1 q hq; rw [S.nvt (hio q.2 z)] at this; cases this
  ·cases e
section
variable {X:Cx} {T:Tt} {f c fe} {R M Mt Me:List Nat} {elt tg iter:Expr} {ifs:List Expr} {scope:Scope} {own:List (Str × Nat)} {pos:Pos}
theorem Q2k (hc:X.calm = true) (hN:X.N.Nodup) (hi:IV X tg iter f R M) (ok:BlkOk X.N X.env.scope scope own) (hg:∀ s H C cl fp,GV (Bk X scope s H C cl fp) tg T) (ht:∀ s H C cl fp,TsV (Bk X scope s H C cl fp) ifs c Mt) (he:∀ s H C cl fp,EV (Bk X scope s H C cl fp) elt fe [] Me)
  (hs:∀ x,foldedSetIterable iter X.env x = pure x:=by intro _; rfl) (hT:∀ j ∈ tS T,j ∈ own.map (·.2):=by decide) (dj:∀ i ∈ R,i ∉ Mt ++ Me:=by decide):NV X (.ListComp elt [⟨tg,iter,ifs,0⟩] scope pos) (fLc T (own.map (·.2)) f c fe) (M ++ (Mt ++ Me)):=by
 obtain ⟨wi,pw,qi⟩:=hi
 refine ⟨_,pe_lc (g:=tGV X.K T) (tt:=tTV X.K c Mt) (te:=tEV X.K fe [] Me) hc hN pw ok (fun s H C cl fp=>(hg s H C cl fp).pg) (fun s H C cl fp=>(ht s H C cl fp).pts) (fun s H C cl fp=>(he s H C cl fp).pe) hs,fun Y F H δ σ A S z δ' e Q k=>?_⟩
 exact Q4o qi hT dj Y F H δ σ A S z δ' e Q k
theorem Q9k {io:Iom} {fr:Fr} {i:Nat} {y:Str} {py spos:Pos} (hc:X.calm = true) (hN:X.N.Nodup) (hy:X.N[i]? = some y) (hyl:X.env.scope.names.lookup y = some .local) (hsw:swapsWith (.ListComp elt [⟨tg,iter,ifs,0⟩] scope pos) (some (.Name y py)) spos.line X.env = pure true)
  (hi:IV X tg iter f R M) (ok:BlkOk X.N X.env.scope scope own) (hg:∀ s H C cl fp,GV (Bk X scope s H C cl fp) tg T) (ht:∀ s H C cl fp,TsV (Bk X scope s H C cl fp) ifs c Mt) (he:∀ s H C cl fp,EV (Bk X scope s H C cl fp) elt fe [] Me)
  (hs:∀ x,foldedSetIterable iter X.env x = pure x:=by intro _; rfl) (hT:∀ j ∈ tS T,j ∈ own.map (·.2):=by decide) (dj:∀ i ∈ R,i ∉ Mt ++ Me:=by decide) (hio:io i = false):SV X io fr (.Assign [.Name y py] (.ListComp elt [⟨tg,iter,ifs,0⟩] scope pos) spos) (Q3Q i (fLc T (own.map (·.2)) f c fe)):=by
 obtain ⟨wi,pw,qi⟩:=hi
 refine ⟨_,ps_setLc (g:=tGV X.K T) (tt:=tTV X.K c Mt) (te:=tEV X.K fe [] Me) hc hN hy hyl hsw pw ok (fun s H C cl fp=>(hg s H C cl fp).pg) (fun s H C cl fp=>(ht s H C cl fp).pts) (fun s H C cl fp=>(he s H C cl fp).pe) hs,fun Y F H δ σ A hY S o e D k=>?_⟩
 unfold Q3Q at e
 cases e1:fLc T (own.map (·.2)) f c fe δ with
 | none=>rw [e1] at e; cases e
 | some w =>
  obtain ⟨d,δ1⟩:=w
  rw [e1] at e
  simp only [Q1] at e
  split at e
  ·rename_i hi
   cases e
   refine Q4o qi hT dj Y F H δ σ A S d δ1 e1 _ fun p F1 H1 st S1 n hF r=>?_
   exact k _ F1 H1 _ st.f (S1.putOw hi (by rw [hY]; exact hio) (S.fresh0 n) hF (fun j hj=>S.isSome hj n) r)
  ·cases e
end
end Z
namespace Z
open PySem PySem.Spec PyProof.Rows L2
structure FnG (P:Program) (w:World) (K:PySem.W.Frag) (mg:Str → Option Value) (base:Heap) (CX:CXT) (k:Nat) (f:Addr) (fd:FuncData) (ps:List Str) (sp:Sp):Prop where
 len:∀ us G Q E,sp us G Q E → us.length = ps.length
 run:∀ (A:Around) (out:List Env) (s:Shared) (G:Hp) (ar:Args) (ws:List Value) (us:List V) (Q:VK) (E:XK),A.guards = some [] → Room k A → Env0 P w K mg base A out s G → BindsTo s fd ar (ps.zip ws) → Vals us ws → sp us G Q E →
  codeAny (model P w) A (.call (.ref f) ar) (CR CX out P w G s Q E) s
section
variable {P:Program} {w:World} {K:PySem.W.Frag} {mg:Str → Option Value} {base:Heap} {CX:CXT} {k:Nat} {f:Addr} {fd:FuncData} {ps:List Str} {sp:Sp}
theorem FnG.mk' {x qual:Str} {st:Stmt} {N:List Str} (Fu:Fun K x qual st f fd) (S:FnScope N ps (defScope st)) (len:∀ us G Q E,sp us G Q E → us.length = ps.length)
  (body:∀ (cd:Value) (A:Around) (out:List Env) (s:Shared) (G:Hp) (us:List V) (Q:VK) (E:XK),A.guards = some [] → Room k (A.deeper (envOfC qual (defScope st) s.heap.objs.size f cd)) → sp us G Q E →
   ∃ t,PSs (cxOf CX P w K mg base N qual (defScope st) f cd A out s G E) (defBody st) t ∧ t { nx:=fun _ G'=>Q .non G',rt:=Q } (start N us) G):FnG P w K mg base CX (k + 1) f fd ps sp:=by
 obtain ⟨oc,od,kV,doc,pm,an,cd,ct,osl,rfl,lk,hcd⟩:=Fu.ex
 refine ⟨len,?_⟩
 intro A out s G ar ws us Q E hG hR e0 hb hv hsp
 have n:=len _ _ _ _ hsp
 have inK:K.In s.heap:=e0.mod.kin.keeps (fun b o e=>(e0.bs b o e).1)
 have room:s.heap.NoLimit:=e0.mod.nolimit.keeps (fun b o e=>(e0.bs b o e).1)
 have kinds:∀ y ∈ ps.zip ws,(defScope st).names.lookup y.1 = some .local ∨ ((defScope st).names.lookup y.1 = some .cell ∧ ((cellsFrom (s.heap.objs.size + 1) (defScope st).names []).lookup y.1).isSome = true):=by
  rintro ⟨m,v⟩ hy
  rcases S.par m (List.of_mem_zip hy).1 with q | q
  ·exact .inl q
  ·exact .inr ⟨q,PySem.W.cellsFrom_some _ _ _ (.inl q)⟩
 refine codeAny_call_function hR.depth (inK _ _ lk) rfl S.co S.gen rfl (PySem.W.codeRec_of inK hcd) (hb _ _ _ _ ?_)
 refine wpAny_newFunctionEnv_cells S.kind kinds fun env he s1 x=>?_
 subst he
 refine ⟨room.keeps x.toInCall.keep,codeAny_func ?_⟩
 obtain ⟨t,ht,hq⟩:=body cd A out s G us Q E hG (hR.deeper _) hsp
 have J0:=inv_start (CX:=CX) (E:=E) S hR.hd e0 n hv x
 refine wpAny_mono (ht.run [] s1 (start N us) G _ J0 hq) (fun fl s2 hs=>?_) (fun _ _ hs=>hs)
 cases fl with
 | ret u =>
  obtain ⟨v,σ2,G2,J,rv,q⟩:=hs
  exact ⟨v,G2,J.os,J.bare,J.base,J.hok,rv,q⟩
 | next =>
  obtain ⟨σ2,G2,J,q⟩:=hs
  exact ⟨.non,G2,J.os,J.bare,J.base,J.hok,rfl,q⟩
 | brk =>
  obtain ⟨_,_,_,q⟩:=hs
  exact q.elim
 | cont =>
  obtain ⟨_,_,_,q⟩:=hs
  exact q.elim
end
section
variable {X:Cx} {CX:CXT} {k:Nat} {f:Addr} {fd:FuncData} {ps:List Str} {sp:Sp} {E:XK} {x:Str} {p pos:Pos} {e:Expr} {es:List Expr} {t:TA}
theorem FnG.pe (Fn:FnG X.prog X.w X.K X.mg X.base CX k f fd ps sp) (hG:X.A.guards = some []) (hR:Room k X.A) (gl:Gl X x) (m:X.mg x = some (.ref f)) (kp:PySem.W.keepIn X.K (.ref f) = true) (hb:Binds X.K fd ps []) (hx:Passes CX X E)
  (ha:PA X (e :: es) t) (db:(x == ("__debug__":Str)) = false) (h1:starEach (e :: es) X.env = (false,eval e X.env) :: starEach es X.env) (h2:(backTo pos (starEach es X.env)).any (·.1) = false) :
  PE X (.Call (.Name x p) (e :: es) [] pos) (tCall sp [] E t):=by
 constructor
 intro pins s σ G Q I h
 refine wpAny_Call_Name_kw (ld_glob I gl m ?_ db)
 refine PySem.W.callWith_K (h₀:=X.base) I.ok.mod.kin kp (thn (ha.run pos pins s σ G _ I h) ?_) h1 h2
 rintro ws s1 ⟨us,G1,I1,r,q⟩
 refine ⟨I1.kIn,?_⟩
 rw [Qx] at q
 have n:=Fn.len _ _ _ _ q
 have n2:(ws ++ []).length = ps.length:=by rw [Qx,← r.length]; exact n
 have b:=hb s1 ws I1.kIn n2
 rw [Qx] at b
 refine wpAny_call (codeAny_mono (Fn.run X.A X.stack s1 G1 ⟨ws,[]⟩ ws us Q E hG hR I1.env0 b r q) ?_)
 intro res s2 hq
 cases res with
 | error er=>exact hx pins σ G1 s1 er s2 I1 hq
 | ok fl =>
  cases fl with
  | ret u=>exact I1.after hq
  | next=>exact hq.elim
  | brk=>exact hq.elim
  | cont=>exact hq.elim
end
def We:Sl → Bool
 | .ow _=>true
 | .lk _=>true
 | .dk _ _ _=>true
 | .ob _ _=>true
 | .dl _=>true
 | _=>false
def Q9U:Sl → Bool
 | .ob _ _=>true
 | _=>false
def Wj (s:Sl):Bool:=We s && !Q9U s
theorem Q47 {s:Sl} (h:Wj s = true):We s = true:=by
 unfold Wj at h
 rw [Q3] at h
 exact h.1
def Ret (K:PySem.W.Frag) (A:Nat → List Addr) (fr:Fr) (H F' H':Hp) (v:V) (d:D):Prop :=
 match fr with
 | .n=>Rp K F' v d
 | .t=>PlT K F' v d
 | .l=>∃ p,v = .ref p ∧ H p = none ∧ F' p = none ∧ K8 K F' H' p d
 | .p=>∃ a p q d0 d1,v = .ref a ∧ d = .tuple [d0,d1] ∧ H' a = some (.tup [.ref p,.ref q]) ∧ p ≠ q ∧ (H p = none ∧ F' p = none ∧ K8 K F' H' p d0) ∧ H q = none ∧ F' q = none ∧ K8 K F' H' q d1
 | .s j=>∃ p,v = .ref p ∧ A j = [p]
def spF (K:PySem.W.Frag) (n:Nat) (fr:Fr) (φ:List Sl → Option (D × List Sl)):Sp:=fun us H Q _ =>
 ∃ (F:Hp) (as:List Sl) (A:Nat → List Addr),as.length = n ∧ SR K Fx.any F H as (us.map some) A ∧ ∃ d outs,φ as = some (d,outs) ∧
  ∀ v F' H',Stp A (Qy n) F H F' H' → SR K Fx.any F' H' outs (us.map some) A → Ret K A fr H F' H' v d → Q v H'
theorem Q7z {K:PySem.W.Frag} {n:Nat} {fr:Fr} {φ} {us:List V} {H:Hp} {Q:VK} {E:XK} (h:spF K n fr φ us H Q E):us.length = n:=by
 obtain ⟨F,as,A,hn,S,_⟩:=h
 have:=S.len
 rw [Qc] at this
 omega
def Y7:List Sl → List Sl → Option (List Sl)
 | [],_=>some []
 | a :: r,b :: s=>match We a with
  | true=>match Wj b with
   | true=>(Y7 r s).map (b :: ·)
   | false=>none
  | false=>(Y7 r s).map (a :: ·)
 | _ :: _,[]=>none
def Q09 (sg:List Bool) (as:List Sl):Bool:=decide (as.map We = sg) && as.all fun a=>!Q9U a
theorem Q2n {sg:List Bool} {as:List Sl} (h:Q09 sg as = true):as.map We = sg:=by
 unfold Q09 at h
 rw [Q3] at h
 exact of_decide_eq_true h.1
def fnF (sg:List Bool) (m:Nat) (fr:Fr) (g:List Sl → Option Out):List Sl → Option (D × List Sl):=fun as =>
 if Q09 sg as then
  match g (as ++ Qs (m - sg.length) .no) with
  | some (.rt d δ)=>(Y7 as δ).map fun o=>(d,o)
  | some (.nx δ)=>match fr with
   | .n=>(Y7 as δ).map fun o=>(.none,o)
   | _=>none
  | _=>none
 else none
theorem K2:∀ {as δ o:List Sl},Y7 as δ = some o → o.length = as.length
 | [],_,_,h=>by cases h; rfl
 | a :: r,b :: s,o,h=>by
  unfold Y7 at h
  split at h
  ·split at h
   ·cases e:Y7 r s with
    | none=>rw [e] at h; cases h
    | some z=>rw [e] at h; cases h; exact congrArg (· + 1) (K2 e)
   ·cases h
  ·cases e:Y7 r s with
   | none=>rw [e] at h; cases h
   | some z=>rw [e] at h; cases h; exact congrArg (· + 1) (K2 e)
 | _ :: _,[],_,h=>by cases h
theorem Kc:∀ {as δ o:List Sl} {i:Nat} {a:Sl},Y7 as δ = some o → as[i]? = some a → (We a = true ∧ ∃ b,δ[i]? = some b ∧ Wj b = true ∧ o[i]? = some b) ∨ (We a = false ∧ o[i]? = some a)
 | [],_,_,_,_,_,e=>by simp at e
 | a :: r,b :: s,o,i,c,h,e=>by
  unfold Y7 at h
  split at h
  ·rename_i ha
   split at h
   ·rename_i hb
    cases e1:Y7 r s with
    | none=>rw [e1] at h; cases h
    | some z =>
     rw [e1] at h
     cases h
     cases i with
     | zero=>cases e; exact .inl ⟨ha,b,rfl,hb,rfl⟩
     | succ i=>exact Kc (i:=i) e1 e
   ·cases h
  ·rename_i ha
   cases e1:Y7 r s with
   | none=>rw [e1] at h; cases h
   | some z =>
    rw [e1] at h
    cases h
    cases i with
    | zero =>
     cases e
     refine .inr ⟨?_,rfl⟩
     cases q:We a with
     | false=>rfl
     | true=>exact absurd q (by simpa using ha)
    | succ i=>exact Kc (i:=i) e1 e
 | _ :: _,[],_,_,_,h,_=>by cases h
def Vu (sg:List Bool) (i:Nat):Bool:=sg.getD i false
section
variable {K:PySem.W.Frag} {F H F' H':Hp} {as:List Sl} {us:List V} {A:Nat → List Addr}
theorem Q3P {s:Sl} {v:Option V} {B:List Addr} (h:Wx K F H s v B) (n:We s = false):B = []:=by
 cases s with
 | no=>exact h
 | fz d=>exact h.1
 | ow d=>cases n
 | lk d=>cases n
 | dk _ _ _=>cases n
 | ob _ _=>cases n
 | dl _=>cases n
 | ab=>exact h.1
 | xv _=>exact h.1
 | scr _=>exact h.1
theorem SR.entry {sg:List Bool} {N:List Str} (S:SR K Fx.any F H as (us.map some) A) (h:Q09 sg as = true) (hN:sg.length ≤ N.length) :
  SR K ⟨Iom.of (Vu sg),Vu sg,fun _=>false,H,F,start N us,A,fun _ z=>Bool.noConfusion z⟩ F H (as ++ Qs (N.length - sg.length) .no) (start N us) A:=by
 have hsg:as.map We = sg:=Q2n h
 have l1:as.length = sg.length:=by rw [← hsg,Qc]
 have l2:as.length = us.length:=by have:=S.len; rwa [Qc] at this
 have own:∀ i a,as[i]? = some a → Vu sg i = We a:=fun i a e=>by
  unfold Vu
  rw [← hsg,J5,Qn,e]
  rfl
 have ino:∀ i,Vu sg i = true → ∃ a,as[i]? = some a ∧ We a = true:=fun i h=>by
  cases e:as[i]? with
  | none =>
   unfold Vu at h
   rw [← hsg,J5,Qn,e] at h
   cases h
  | some a=>exact ⟨a,rfl,by rw [← own i a e]; exact h⟩
 refine ⟨?_,fun i s e=>?_,fun i e=>?_,S.dis,S.hid,fun i a ha hi=>?_,S.sub,fun i _=>⟨rfl,rfl⟩,fun i hi=>?_,fun _ _ e _=>e,fun _ e n=>absurd e n,Same.refl _,fun _ h=>h.elim id (fun z=>(by cases z)),fun i c fs e=>?_,fun i hi e=>?_⟩
 ·unfold L2.start
  rw [J4,List.length_replicate,J4,Qc,List.length_replicate]
  omega
 ·by_cases c:i < as.length
  ·rw [Qu c] at e
   have:=S.slot i s e
   unfold L2.start
   rw [Qu (by rw [Qc]; omega)]
   exact this
  ·rw [List.getElem?_append_right (by omega),List.getElem?_replicate] at e
   split at e
   ·cases e
    exact S.out i (Qw (by omega))
   ·cases e
 ·have:as.length ≤ i:=by
   have:=List.getElem?_eq_none_iff.mp e
   rw [J4] at this
   omega
  exact S.out i (Qw this)
 ·cases e:as[i]? with
  | none=>rw [S.out i e] at ha; simp at ha
  | some s =>
   rw [Q3P (S.slot i s e) (by rw [← own i s e]; exact hi)] at ha
   simp at ha
 ·exact trivial
 ·by_cases c:i < as.length
  ·rw [Qu c] at e
   obtain ⟨h1,h2⟩:=S.ob i _ fs e
   have hfs:fs = []:=by
    cases fs with
    | nil=>rfl
    | cons q r=>cases h1 q Qd
   subst hfs
   refine ⟨by simp,fun p C dx fvs e1 e2=>h2 p C dx fvs ?_ e2⟩
   unfold L2.start at e1
   rw [Qu (by rw [Qc]; omega)] at e1
   exact e1
  ·rw [List.getElem?_append_right (by omega),List.getElem?_replicate] at e
   split at e <;> cases e
 ·obtain ⟨a,e1,ho⟩:=ino i hi
  have c:=(Qg.mp e1).1
  rw [Qu c,e1] at e
  cases e
  cases ho
theorem SR.leave {sg:List Bool} {N:List Str} {δ' outs:List Sl} {σ':L2.St} {A':Nat → List Addr} (S:SR K Fx.any F H as (us.map some) A) (h:Q09 sg as = true) (hN:sg.length ≤ N.length) (S':SR K ⟨Iom.of (Vu sg),Vu sg,fun _=>false,H,F,start N us,A,fun _ z=>Bool.noConfusion z⟩ F' H' δ' σ' A') (hm:Y7 as δ' = some outs) :
  Stp A (Qy sg.length) F H F' H' ∧ SR K Fx.any F' H' outs (us.map some) A:=by
 have hsg:as.map We = sg:=Q2n h
 have l1:as.length = sg.length:=by rw [← hsg,Qc]
 have l2:as.length = us.length:=by have:=S.len; rwa [Qc] at this
 have own:∀ i a,as[i]? = some a → Vu sg i = We a:=fun i a e=>by
  unfold Vu
  rw [← hsg,J5,Qn,e]
  rfl
 have nul:∀ i,Vu sg i = false → A i = []:=fun i hi=>by
  cases e:as[i]? with
  | none=>exact S.out i e
  | some s=>exact Q3P (S.slot i s e) (by rw [← own i s e]; exact hi)
 have lo:=K2 hm
 have eqA:∀ i,Vu sg i = true → A' i = A i:=fun i hi=>(S'.fix i hi).2
 have small:∀ i,Vu sg i = true → i < sg.length:=fun i hi=>by
  cases Nat.lt_or_ge i sg.length with
  | inl h=>exact h
  | inr h =>
   unfold Vu at hi
   rw [J5,Qw h] at hi
   cases hi
 refine ⟨⟨S'.f0,S'.nw,fun a o e n=>S'.kp a o e fun i hi z=>n i (List.mem_range.mpr (small i hi)) z⟩,?_⟩
 refine ⟨by rw [lo]; exact S.len,fun i s e=>?_,fun i e=>?_,S.dis,fun i a ha=>?_,fun _ _ _ _=>rfl,S'.sub,fun i hi=>?_,fun i hi=>?_,fun _ _ e=>?_,fun _ _ _=>rfl,fun _ _ e=>?_,fun _ h=>(by rcases h with h | h <;> cases h),fun i c fs e=>?_,fun _ h=>by cases h⟩
 ·have hi:i < as.length:=by rw [← lo]; exact (Qg.mp e).1
  obtain ⟨a,ea⟩:∃ a,as[i]? = some a:=⟨_,Qh hi⟩
  rcases Kc hm ea with ⟨h1,b,h2,h3,h4⟩ | ⟨h1,h2⟩
  ·rw [e] at h4
   cases h4
   have io:Vu sg i = true:=by rw [own i a ea]; exact h1
   have q:=S'.slot i s h2
   obtain ⟨f1,f2⟩:=S'.fix i io
   rw [f1,f2] at q
   have:(start N us)[i]? = (us.map some)[i]?:=by
    unfold L2.start
    rw [Qu (by rw [Qc]; omega)]
   rw [show (⟨Iom.of (Vu sg),Vu sg,fun _=>false,H,F,start N us,A,fun _ z=>Bool.noConfusion z⟩:Fx).σ0 = start N us from rfl,this] at q
   exact q
  ·rw [e] at h2
   cases h2
   have io:Vu sg i = false:=by rw [own i s ea]; exact h1
   refine (S.slot i s ea).mono S'.f0 fun a ha=>?_
   rw [nul i io] at ha
   simp at ha
 ·exact S.out i (Qw (by rw [← lo]; exact List.getElem?_eq_none_iff.mp e))
 ·cases c:Vu sg i with
  | true =>
   rw [← eqA i c] at ha
   exact S'.hid i a ha
  | false =>
   rw [nul i c] at ha
   simp at ha
 ·cases hi
 ·cases hi
 ·cases e
 ·cases e
 ·have hi:i < as.length:=by rw [← lo]; exact (Qg.mp e).1
  obtain ⟨a,ea⟩:∃ a,as[i]? = some a:=⟨_,Qh hi⟩
  rcases Kc hm ea with ⟨h1,b,h2,h3,h4⟩ | ⟨h1,h2⟩
  ·rw [e] at h4
   cases h4
   cases h3
  ·rw [e] at h2
   cases h2
   cases h1
end
section
variable {P:Program} {w:World} {K:PySem.W.Frag} {mg:Str → Option Value} {base:Heap} {CX:CXT} {k:Nat} {f:Addr} {fd:FuncData} {ps:List Str}
theorem Wf {x qual:Str} {st:Stmt} {N:List Str} {sg:List Bool} {fr:Fr} {g:List Sl → Option Out} (Fu:Fun K x qual st f fd) (S:FnScope N ps (defScope st)) (hl:sg.length = ps.length)
  (body:∀ (cd:Value) (A:Around) (out:List Env) (s:Shared) (G:Hp) (E:XK),A.guards = some [] → Room k (A.deeper (envOfC qual (defScope st) s.heap.objs.size f cd)) → BV (cxOf CX P w K mg base N qual (defScope st) f cd A out s G E) (Iom.of (Vu sg)) fr (defBody st) g) :
  FnG P w K mg base CX (k + 1) f fd ps (spF K ps.length fr (fnF sg N.length fr g)):=by
 have hN:sg.length ≤ N.length:=by
  rw [hl]
  have:=congrArg List.length S.pre
  rw [List.length_take] at this
  omega
 refine FnG.mk' Fu S (fun us G Q E h=>Q7z h) fun cd A out s G us Q E hG hR h=>?_
 obtain ⟨t,p,q⟩:=body cd A out s G E hG hR
 refine ⟨t,p,?_⟩
 obtain ⟨F,as,B,hn,S0,d,outs,hφ,kk⟩:=h
 unfold fnF at hφ
 split at hφ
 ·rename_i ok
  have S1:=S0.entry ok hN
  cases e:g (as ++ Qs (N.length - sg.length) .no) with
  | none=>rw [e] at hφ; cases hφ
  | some o =>
   rw [e] at hφ
   refine q ⟨Iom.of (Vu sg),Vu sg,fun _=>false,G,F,start N us,B,fun _ z=>Bool.noConfusion z⟩ F G _ (start N us) B rfl S1 o e _ ?_
   cases o with
   | rt d1 δ1 =>
    simp only at hφ
    cases e2:Y7 as δ1 with
    | none=>rw [e2] at hφ; cases hφ
    | some o =>
     rw [e2] at hφ
     cases hφ
     intro v σ' F' G' B' sF S2 r
     obtain ⟨st',S3⟩:=S0.leave ok hN S2 e2
     rw [hl] at st'
     refine kk v F' G' st' S3 ?_
     cases fr with
     | n=>exact r
     | t=>exact r
     | l =>
      obtain ⟨p',rv,h0,hF,_,ow⟩:=r
      exact ⟨p',rv,h0,hF,ow⟩
     | p =>
      obtain ⟨a',p',q',d0,d1,rv,rd,ha,ne,⟨h0,hF,_,ow⟩,h1,hF1,_,ow1⟩:=r
      exact ⟨a',p',q',d0,d1,rv,rd,ha,ne,⟨h0,hF,ow⟩,h1,hF1,ow1⟩
     | s j =>
      obtain ⟨_,hio,p',rv,ha⟩:=r
      exact ⟨p',rv,(S2.fix j hio).2.symm.trans ha⟩
   | nx δ1 =>
    cases fr with
    | l=>cases hφ
    | t=>cases hφ
    | p=>cases hφ
    | s j=>cases hφ
    | n =>
     simp only at hφ
     cases e2:Y7 as δ1 with
     | none=>rw [e2] at hφ; cases hφ
     | some o =>
      rw [e2] at hφ
      cases hφ
      intro σ' F' G' B' sF S2
      obtain ⟨st',S3⟩:=S0.leave ok hN S2 e2
      rw [hl] at st'
      exact kk .non F' G' st' S3 .non
   | ct δ1=>cases hφ
 ·cases hφ
end
end Z
namespace Z
open PySem PySem.Spec PyProof.Rows L2
inductive Ar where
 | d (d:D)
 | io (i:Nat)
def ArR (K:PySem.W.Frag) (F H:Hp) (A:Nat → List Addr) (R:List Nat) (σ:L2.St):List V → List Ar → Prop
 | [],[]=>True
 | v :: vs,.d d :: r=>Vw K F H A R v d ∧ ArR K F H A R σ vs r
 | v :: vs,.io i :: r=>σ[i]? = some (some v) ∧ ArR K F H A R σ vs r
 | _,_=>False
def CV (X:Cx) (es:List Expr) (f:List Sl → Option (List Ar × List Sl)) (R M:List Nat):Prop :=
 ∃ t,PA X es t ∧ ∀ (Y:Fx) (F H:Hp) (δ:List Sl) (σ:L2.St) (A:Nat → List Addr),SR X.K Y F H δ σ A → ∀ (as:List Ar) (δ':List Sl),f δ = some (as,δ') → ∀ Q:List V → Hp → Prop,
  (∀ vs F' H',Stp A M F H F' H' → SR X.K Y F' H' δ' σ A → ArR X.K F' H' A R σ vs as → Q vs H') → t σ H Q
def Yb:List Sl → Option (List Ar × List Sl):=fun δ=>some ([],δ)
def X4 (fa:List Sl → Option (D × List Sl)) (fr:List Sl → Option (List Ar × List Sl)):List Sl → Option (List Ar × List Sl):=fun δ=>(fa δ).bind fun p=>(fr p.2).map fun q=>(.d p.1 :: q.1,q.2)
def Q2g (i:Nat) (δ:List Sl):Bool:=match δ[i]? with
 | some s=>Wj s
 | none=>false
def kIo (i:Nat) (fr:List Sl → Option (List Ar × List Sl)):List Sl → Option (List Ar × List Sl):=fun δ=>if Q2g i δ then (fr δ).map fun q=>(.io i :: q.1,q.2) else none
section
variable {X:Cx}
theorem ArR.mono {K:PySem.W.Frag} {F H:Hp} {A:Nat → List Addr} {R R':List Nat} {σ:L2.St} (s:∀ i ∈ R,i ∈ R'):∀ {vs:List V} {as:List Ar},ArR K F H A R σ vs as → ArR K F H A R' σ vs as
 | [],[],_=>trivial
 | v :: vs,.d d :: r,⟨h,t⟩=>⟨h.mono s,ArR.mono s t⟩
 | v :: vs,.io i :: r,⟨h,t⟩=>⟨h,ArR.mono s t⟩
 | [],_ :: _,h=>h.elim
 | _ :: _,[],h=>h.elim
theorem Q5R:CV X [] Yb [] []:=by
 refine ⟨_,pa_nil,fun Y F H δ σ A S d' δ' e Q k=>?_⟩
 cases e
 exact k _ _ _ Stp.refl S trivial
theorem Q2N {a:Expr} {es:List Expr} {fa fr} {Ra Rr Ma Mr:List Nat} (ha:EV X a fa Ra Ma) (hr:CV X es fr Rr Mr) (dj:∀ i ∈ Ra,i ∉ Mr:=by decide) (hs:starEach (a :: es) X.env = (false,eval a X.env) :: starEach es X.env:=by rfl):CV X (a :: es) (X4 fa fr) (Ra ++ Rr) (Ma ++ Mr):=by
 obtain ⟨ta,pa,qa⟩:=ha
 obtain ⟨tb,pb,qb⟩:=hr
 refine ⟨_,pa_cons pa pb hs,fun Y F H δ σ A S ds δ' e Q k=>?_⟩
 unfold X4 at e
 cases e1:fa δ with
 | none=>rw [e1] at e; cases e
 | some p =>
  obtain ⟨d,δ1⟩:=p
  rw [e1] at e
  simp only [Q1] at e
  cases e2:fr δ1 with
  | none=>rw [e2] at e; cases e
  | some q =>
   obtain ⟨r,δ2⟩:=q
   rw [e2] at e
   cases e
   refine qa Y F H δ σ A S d δ1 e1 _ fun x F1 H1 st1 S1 r1=>?_
   refine qb Y F1 H1 δ1 σ A S1 r _ e2 _ fun y F2 H2 st2 S2 r2=>?_
   exact k _ F2 H2 (st1.trans S1 st2) S2 ⟨(r1.step S1 st2 dj).mono fun i hi=>Qf _ hi,r2.mono fun i hi=>Qm _ hi⟩
theorem Q7v {K:PySem.W.Frag} {F H:Hp} {s:Sl} {v:Option V} {B:List Addr} (h:Wx K F H s v B) (n:We s = true):∃ p,v = some (.ref p):=by
 cases s with
 | no=>cases n
 | fz d=>cases n
 | ow d=>obtain ⟨p,e,_⟩:=h; exact ⟨p,e⟩
 | lk d=>obtain ⟨p,e,_⟩:=h; exact ⟨p,e⟩
 | dk _ _ _=>obtain ⟨p,q,e,_⟩:=h; exact ⟨p,e⟩
 | ob _ _=>obtain ⟨p,q,_,_,e,_⟩:=h; exact ⟨p,e⟩
 | dl _=>obtain ⟨p,q,_,e,_⟩:=h; exact ⟨p,e⟩
 | ab=>cases n
 | xv _=>cases n
 | scr _=>cases n
theorem Q81 {i:Nat} {x:Str} {pos:Pos} {es:List Expr} {fr} {R M:List Nat} (n:Nm X i x) (hr:CV X es fr R M) (hs:starEach (.Name x pos :: es) X.env = (false,eval (.Name x pos) X.env) :: starEach es X.env:=by rfl):CV X (.Name x pos :: es) (kIo i fr) R M:=by
 obtain ⟨tb,pb,qb⟩:=hr
 refine ⟨_,pa_cons n.pe pb hs,fun Y F H δ σ A S ds δ' e Q k=>?_⟩
 unfold kIo at e
 split at e
 ·rename_i ho
  cases e2:fr δ with
  | none=>rw [e2] at e; cases e
  | some q =>
   obtain ⟨r,δ2⟩:=q
   rw [e2] at e
   cases e
   unfold Q2g at ho
   split at ho
   ·rename_i s hs'
    obtain ⟨p,ep⟩:=Q7v (S.slot i s hs') (Q47 ho)
    refine ⟨.ref p,Vc ep,?_⟩
    exact qb Y F H δ σ A S r _ e2 _ fun y F2 H2 st2 S2 r2=>k _ F2 H2 st2 S2 ⟨Vc ep,r2⟩
   ·cases ho
 ·cases e
def ios:List Ar → List Nat
 | []=>[]
 | .d _ :: r=>ios r
 | .io i :: r=>i :: ios r
def Q3t (δ:List Sl):Ar → Sl
 | .d d=>.fz d
 | .io i=>δ[i]?.getD .no
def Ym:List Ar → List Sl → List Sl → List Sl
 | .io i :: r,b :: s,δ=>Ym r s (δ.set i b)
 | .d _ :: r,_ :: s,δ=>Ym r s δ
 | _,_,δ=>δ
def Q5q:Sl → Bool
 | .dk _ _ _=>true
 | _=>false
def Zx (R:List Nat) (δ:List Sl) (as:List Ar):Bool:=decide ((ios as).Nodup) && (ios as).all (fun i=>Q2g i δ && !(R.contains i) && (R.isEmpty || (match δ[i]? with | some s=>Q5q s | none=>false)))
def Vl (R:List Nat):List Ar → List Sl → Bool
 | .io _ :: r,b :: s=>Wj b && (R.isEmpty || Q5q b) && Vl R r s
 | .d _ :: r,_ :: s=>Vl R r s
 | [],[]=>true
 | _,_=>false
def Xc (R:List Nat) (flat:Bool) (φ:List Sl → Option (D × List Sl)) (f:List Sl → Option (List Ar × List Sl)):List Sl → Option (D × List Sl):=fun δ=>(f δ).bind fun p =>
 if Zx R p.2 p.1 then (φ (p.1.map (Q3t p.2))).bind fun q=>if Vl R p.1 q.2 && (R.isEmpty || (flat && noL q.1)) then some (q.1,Ym p.1 q.2 p.2) else none else none
end
section
variable {K:PySem.W.Frag} {Y:Fx} {F H:Hp} {δ:List Sl} {σ:L2.St} {A:Nat → List Addr} {R:List Nat}
def Wl (A:Nat → List Addr) (as:List Ar):Nat → List Addr:=fun j=>match as[j]? with
 | some (.io i)=>A i
 | _=>[]
theorem W3 {as:List Ar} {i:Nat}:i ∈ ios as ↔ ∃ j:Nat,as[j]? = some (Ar.io i):=by
 induction as with
 | nil=>simp [ios]
 | cons a r ih =>
  cases a with
  | d d =>
   rw [show ios (.d d :: r) = ios r from rfl,ih]
   constructor
   ·rintro ⟨j,h⟩
    exact ⟨j + 1,h⟩
   ·rintro ⟨j,h⟩
    cases j with
    | zero=>cases h
    | succ j=>exact ⟨j,h⟩
  | io k =>
   rw [show ios (.io k :: r) = k :: ios r from rfl,Q7,ih]
   constructor
   ·rintro (rfl | ⟨j,h⟩)
    ·exact ⟨0,rfl⟩
    ·exact ⟨j + 1,h⟩
   ·rintro ⟨j,h⟩
    cases j with
    | zero=>cases h; exact .inl rfl
    | succ j=>exact .inr ⟨j,h⟩
theorem Q7Q {as:List Ar} (h:(ios as).Nodup):∀ {j k i:Nat},as[j]? = some (.io i) → as[k]? = some (.io i) → j = k:=by
 induction as with
 | nil=>intro j k i e; simp at e
 | cons a r ih =>
  intro j k i e1 e2
  cases a with
  | d d =>
   cases j with
   | zero=>cases e1
   | succ j =>
    cases k with
    | zero=>cases e2
    | succ k=>rw [ih h e1 e2]
  | io m =>
   rw [show ios (.io m :: r) = m :: ios r from rfl,List.nodup_cons] at h
   cases j with
   | zero =>
    cases e1
    cases k with
    | zero=>rfl
    | succ k=>exact absurd (W3.mpr ⟨k,e2⟩) h.1
   | succ j =>
    cases k with
    | zero =>
     cases e2
     exact absurd (W3.mpr ⟨j,e1⟩) h.1
    | succ k=>rw [ih h.2 e1 e2]
theorem ArR.get:∀ {vs:List V} {as:List Ar} {j:Nat} {a:Ar},ArR K F H A R σ vs as → as[j]? = some a → ∃ v,vs[j]? = some v ∧ (match a with | .d d=>Vw K F H A R v d | .io i=>σ[i]? = some (some v))
 | [],[],_,_,_,e=>by simp at e
 | v :: vs,.d d :: r,0,_,⟨h,t⟩,e=>by cases e; exact ⟨v,rfl,h⟩
 | v :: vs,.io i :: r,0,_,⟨h,t⟩,e=>by cases e; exact ⟨v,rfl,h⟩
 | v :: vs,.d d :: r,j + 1,a,⟨h,t⟩,e=>ArR.get (j:=j) t e
 | v :: vs,.io i :: r,j + 1,a,⟨h,t⟩,e=>ArR.get (j:=j) t e
 | [],_ :: _,_,_,h,_=>h.elim
 | _ :: _,[],_,_,h,_=>h.elim
theorem ArR.length:∀ {vs:List V} {as:List Ar},ArR K F H A R σ vs as → vs.length = as.length
 | [],[],_=>rfl
 | v :: vs,.d d :: r,⟨h,t⟩=>congrArg (· + 1) t.length
 | v :: vs,.io i :: r,⟨h,t⟩=>congrArg (· + 1) t.length
 | [],_ :: _,h=>h.elim
 | _ :: _,[],h=>h.elim
theorem Z3 {as:List Ar} (h:Zx R δ as = true) {i:Nat} (hi:i ∈ ios as):∃ s,δ[i]? = some s ∧ Wj s = true ∧ i ∉ R ∧ (R = [] ∨ Q5q s = true):=by
 unfold Zx at h
 rw [Q3] at h
 have:=Qi.mp h.2 i hi
 simp only [Q3,Bool.or_eq_true,Bool.not_eq_true',List.isEmpty_iff] at this
 obtain ⟨⟨h1,h2⟩,h3⟩:=this
 unfold Q2g at h1
 cases e:δ[i]? with
 | none=>rw [e] at h1; cases h1
 | some s =>
  rw [e] at h1 h3
  exact ⟨s,rfl,h1,by simpa using h2,h3⟩
theorem Q3h {as:List Ar} (h:Zx R δ as = true):(ios as).Nodup:=by
 unfold Zx at h
 rw [Q3] at h
 exact of_decide_eq_true h.1
theorem SR.args {vs:List V} {as:List Ar} (S:SR K Y F H δ σ A) (ok:Zx R δ as = true) (r:ArR K F H A R σ vs as):SR K Fx.any (ex R A F H) H (as.map (Q3t δ)) (vs.map some) (Wl A as):=by
 have nd:=Q3h ok
 have mem:∀ j a,a ∈ Wl A as j → ∃ i,as[j]? = some (.io i) ∧ a ∈ A i:=fun j a h=>by
  unfold Wl at h
  split at h
  ·rename_i i e
   exact ⟨i,e,h⟩
  ·simp at h
 refine ⟨by rw [Qc,Qc,r.length],fun j s e=>?_,fun j e=>?_,fun j k a h1 h2=>?_,fun j a h=>?_,fun _ _ _ _=>rfl,Q06 S,fun i hi=>?_,fun i hi=>?_,fun _ _ e=>?_,fun _ _ _=>rfl,fun _ _ e=>?_,fun _ h=>(by rcases h with h | h <;> cases h),fun j c fs e=>?_,fun _ h=>by cases h⟩
 ·rw [Qn] at e
  cases e1:as[j]? with
  | none=>rw [e1] at e; cases e
  | some a =>
   rw [e1] at e
   cases e
   obtain ⟨v,v1,v2⟩:=r.get e1
   have jv:jn (vs.map some)[j]? = some v:=by
    rw [Qn,v1]
    rfl
   rw [jv]
   cases a with
   | d d =>
    have:Wl A as j = []:=by unfold Wl; rw [e1]
    rw [this]
    exact ⟨rfl,v,rfl,v2.ex S⟩
   | io i =>
    have:Wl A as j = A i:=by unfold Wl; rw [e1]
    rw [this]
    obtain ⟨s,h1,h2,_⟩:=Z3 ok (W3.mpr ⟨j,e1⟩)
    show Wx K _ H (δ[i]?.getD .no) (some v) (A i)
    rw [h1]
    have q:=S.slot i s h1
    rw [v2] at q
    exact q.mono (Q05 S) fun _ _=>rfl
 ·rw [Qn] at e
  cases e1:as[j]? with
  | none=>unfold Wl; rw [e1]
  | some a=>rw [e1] at e; cases e
 ·obtain ⟨i,e1,m1⟩:=mem j a h1
  obtain ⟨i',e2,m2⟩:=mem k a h2
  have:=S.dis i i' a m1 m2
  subst this
  exact Q7Q nd e1 e2
 ·obtain ⟨i,e1,m1⟩:=mem j a h
  obtain ⟨s,h1,h2,h3,_⟩:=Z3 ok (W3.mpr ⟨j,e1⟩)
  unfold ex
  rw [if_neg]
  ·exact S.hid i a m1
  ·rintro ⟨i',hi',m2⟩
   have:=S.dis i i' a m1 m2
   subst this
   exact h3 hi'
 ·cases hi
 ·cases hi
 ·cases e
 ·cases e
 ·rw [Qn] at e
  cases e1:as[j]? with
  | none=>rw [e1] at e; cases e
  | some a =>
   rw [e1] at e
   cases a with
   | d d=>cases e
   | io i =>
    obtain ⟨s,h1,h2,_⟩:=Z3 ok (W3.mpr ⟨j,e1⟩)
    have e:some (δ[i]?.getD .no) = some (Sl.ob c fs):=e
    rw [h1] at e
    cases e
    cases h2
def Q08 (R:List Nat) (A:Nat → List Addr) (F:Hp):Hp:=fun a=>if ∃ i ∈ R,a ∈ A i then none else F a
theorem Q0B {F:Hp}:Q08 [] A F = F:=by
 funext a
 unfold Q08
 rw [if_neg]
 simp
theorem Vz:∀ {as:List Ar} {s δ:List Sl},(Ym as s δ).length = δ.length
 | [],_,_=>by simp [Ym]
 | .d _ :: r,[],_=>by simp [Ym]
 | .io _ :: r,[],_=>by simp [Ym]
 | .d _ :: r,b :: s,δ=>Vz (as:=r) (s:=s) (δ:=δ)
 | .io i :: r,b :: s,δ=>by rw [show Ym (.io i :: r) (b :: s) δ = Ym r s (δ.set i b) from rfl,Vz,J8]
theorem W9:∀ {as:List Ar} {s δ:List Sl} {i:Nat},i ∉ ios as → (Ym as s δ)[i]? = δ[i]?
 | [],_,_,_,_=>by simp [Ym]
 | .d _ :: r,[],_,_,_=>by simp [Ym]
 | .io _ :: r,[],_,_,_=>by simp [Ym]
 | .d _ :: r,b :: s,δ,i,h=>by
  show (Ym r s δ)[i]? = δ[i]?
  exact W9 (as:=r) h
 | .io k :: r,b :: s,δ,i,h=>by
  rw [show ios (.io k :: r) = k :: ios r from rfl,Q7,not_or] at h
  rw [show Ym (.io k :: r) (b :: s) δ = Ym r s (δ.set k b) from rfl,W9 h.2,Qe (Ne.symm h.1)]
theorem Q0n:∀ {as:List Ar} {s δ:List Sl} {i j:Nat} {b:Sl},(ios as).Nodup → as[j]? = some (.io i) → s[j]? = some b → i < δ.length → (Ym as s δ)[i]? = some b
 | [],_,_,_,_,_,_,e,_,_=>by simp at e
 | .d _ :: r,[],_,_,_,_,_,_,e,_=>by simp at e
 | .io _ :: r,[],_,_,_,_,_,_,e,_=>by simp at e
 | .d _ :: r,c :: s,δ,i,j,b,nd,e,e2,hi=>by
  cases j with
  | zero=>cases e
  | succ j=>exact Q0n (as:=r) (s:=s) (j:=j) nd e e2 hi
 | .io k :: r,c :: s,δ,i,j,b,nd,e,e2,hi=>by
  rw [show ios (.io k :: r) = k :: ios r from rfl,List.nodup_cons] at nd
  rw [show Ym (.io k :: r) (c :: s) δ = Ym r s (δ.set k c) from rfl]
  cases j with
  | zero =>
   cases e
   cases e2
   rw [W9 nd.1,Qk hi]
  | succ j=>exact Q0n (as:=r) (s:=s) (j:=j) nd.2 e e2 (by rw [J8]; exact hi)
theorem Zp:∀ {as:List Ar} {s:List Sl} {i j:Nat} {b:Sl},Vl R as s = true → as[j]? = some (.io i) → s[j]? = some b → Wj b = true ∧ (R = [] ∨ Q5q b = true)
 | [],_,_,_,_,_,e,_=>by simp at e
 | .d _ :: r,[],_,_,_,h,_,_=>by cases h
 | .io _ :: r,[],_,_,_,h,_,_=>by cases h
 | .d _ :: r,c :: s,i,j,b,h,e,e2=>by
  cases j with
  | zero=>cases e
  | succ j=>exact Zp (as:=r) (s:=s) (j:=j) h e e2
 | .io k :: r,c :: s,i,j,b,h,e,e2=>by
  rw [show Vl R (.io k :: r) (c :: s) = (Wj c && (R.isEmpty || Q5q c) && Vl R r s) from rfl] at h
  simp only [Q3,Bool.or_eq_true,List.isEmpty_iff] at h
  cases j with
  | zero =>
   cases e2
   exact h.1
  | succ j=>exact Zp (as:=r) (s:=s) (j:=j) h.2 e e2
theorem Kr:∀ {as:List Ar} {s:List Sl},Vl R as s = true → s.length = as.length
 | [],[],_=>rfl
 | [],_ :: _,h=>by cases h
 | .d _ :: r,[],h=>by cases h
 | .io _ :: r,[],h=>by cases h
 | .d _ :: r,c :: s,h=>congrArg (· + 1) (Kr (as:=r) (s:=s) h)
 | .io k :: r,c :: s,h=>by
  rw [show Vl R (.io k :: r) (c :: s) = (Wj c && (R.isEmpty || Q5q c) && Vl R r s) from rfl] at h
  simp only [Q3] at h
  exact congrArg (· + 1) (Kr (as:=r) (s:=s) h.2)
theorem SR.behind {vs:List V} {as:List Ar} {F2 H2:Hp} {outs:List Sl} (S:SR K Y F H δ σ A) (ok:Zx R δ as = true) (r:ArR K F H A R σ vs as) (st:Stp (Wl A as) (Qy as.length) (ex R A F H) H F2 H2)
  (S2:SR K Fx.any F2 H2 outs (vs.map some) (Wl A as)) (oo:Vl R as outs = true):Stp A (ios as) F H (Q08 R A F2) H2 ∧ SR K Y (Q08 R A F2) H2 (Ym as outs δ) σ A ∧ Same (Q08 R A F2) F2:=by
 have nd:=Q3h ok
 have nR:∀ a,F a ≠ none → ¬ ∃ i ∈ R,a ∈ A i:=fun a h=>by
  rintro ⟨i,_,m⟩
  exact h (S.hid i a m)
 have notarg:∀ i a,a ∈ A i → i ∉ ios as → ∀ j ∈ Qy as.length,a ∉ Wl A as j:=fun i a m hi j _ h=>by
  unfold Wl at h
  split at h
  ·rename_i i' e
   have:=S.dis i i' a m h
   subst this
   exact hi (W3.mpr ⟨j,e⟩)
  ·simp at h
 have keep:∀ a o,H a = some o → (∀ i ∈ ios as,a ∉ A i) → H2 a = some o:=fun a o e n=>st.kp a o e fun j _ h=>by
  unfold Wl at h
  split at h
  ·rename_i i' e'
   exact n i' (W3.mpr ⟨j,e'⟩) h
  ·simp at h
 have sU:Same (Q08 R A F2) F2:=fun a o e=>by
  unfold Q08 at e
  split at e
  ·cases e
  ·exact e
 have sF:Same F (Q08 R A F2):=fun a o e=>by
  have c:=nR a (by rw [e]; simp)
  have q:ex R A F H a = some o:=(if_neg c:ex R A F H a = F a).trans e
  show Q08 R A F2 a = some o
  unfold Q08
  rw [if_neg c]
  exact st.f a o q
 have newH:∀ a,F a = none → Q08 R A F2 a ≠ none → H a = none:=fun a e n=>by
  unfold Q08 at n
  split at n
  ·exact absurd rfl n
  ·rename_i c
   have q:ex R A F H a = none:=(if_neg c:ex R A F H a = F a).trans e
   exact st.nw a q n
 have hidU:∀ i a,a ∈ A i → Q08 R A F2 a = none:=fun i a m=>by
  cases q:Q08 R A F2 a with
  | none=>rfl
  | some o =>
   have:=newH a (S.hid i a m) (by rw [q]; simp)
   exact absurd this (S.isSome m)
 have back_at:∀ {i},i ∈ ios as → ∃ b,(Ym as outs δ)[i]? = some b ∧ Wj b = true:=fun {i} c=>by
  obtain ⟨j,ej⟩:=W3.mp c
  obtain ⟨s0,h1,h2,h3,h4⟩:=Z3 ok c
  have hj:j < as.length:=(Qg.mp ej).1
  have lo:=Kr oo
  obtain ⟨b,eb⟩:∃ b,outs[j]? = some b:=⟨_,Qh (by omega)⟩
  exact ⟨b,Q0n (δ:=δ) nd ej eb (Qg.mp h1).1,(Zp oo ej eb).1⟩
 refine ⟨⟨sF,newH,keep⟩,⟨by rw [Vz]; exact S.len,fun i s e=>?_,fun i e=>?_,S.dis,hidU,S.new,sU.trans S2.sub,S.fix,S.ioA,fun a o e n=>?_,fun a e n=>?_,S.f0.trans sF,S.lio,fun i c0 fs e=>?_,fun i hi e=>?_⟩,sU⟩
 ·by_cases c:i ∈ ios as
  ·obtain ⟨j,ej⟩:=W3.mp c
   obtain ⟨s0,h1,h2,h3,h4⟩:=Z3 ok c
   have hj:j < as.length:=(Qg.mp ej).1
   have lo:=Kr oo
   obtain ⟨b,eb⟩:∃ b,outs[j]? = some b:=⟨_,Qh (by omega)⟩
   have:=Q0n (δ:=δ) nd ej eb (Qg.mp h1).1
   have e:s = b:=J2.inj (e.symm.trans this)
   subst e
   obtain ⟨o1,o2⟩:=Zp oo ej eb
   have q:=S2.slot j s eb
   obtain ⟨v,v1,v2⟩:=r.get ej
   have jv:jn (vs.map some)[j]? = some v:=by
    rw [Qn,v1]
    rfl
   have eA:Wl A as j = A i:=by unfold Wl; rw [ej]
   rw [jv,eA] at q
   rw [v2]
   rcases o2 with o2 | o2
   ·subst o2
    rw [Q0B]
    exact q
   ·cases s with
    | dk cs m n=>exact q
    | _=>cases o2
  ·rw [W9 c] at e
   refine (S.slot i s e).mono sF fun a ha=>?_
   obtain ⟨xs,q⟩:=(S.there ha).some
   rw [q,keep a _ q fun j hj z=>c (by rw [S.dis i j a ha z]; exact hj)]
 ·have:δ[i]? = none:=by
   have:=List.getElem?_eq_none_iff.mp e
   rw [Vz] at this
   exact Qw this
  exact S.out i this
 ·refine keep a o (S.kp a o e n) fun i hi m=>?_
  cases c:Y.lt i with
  | true =>
   have:=(S.fix i c).2
   rw [this] at m
   exact n i c m
  | false =>
   rw [S.new i a m c] at e
   cases e
 ·cases q:F a with
  | some o=>exact S.nw a e (by rw [q]; simp)
  | none=>exact S.fresh0 (newH a q n)
 ·have c:i ∉ ios as:=fun c=>by
   obtain ⟨b,h1,h2⟩:=back_at c
   rw [e] at h1
   cases h1
   cases h2
  rw [W9 c] at e
  obtain ⟨h1,h2⟩:=S.ob i c0 fs e
  refine ⟨h1,fun p C dx fvs e1 e2=>h2 p C dx fvs e1 ?_⟩
  have hp:=S.obp e e1
  obtain ⟨xs,q⟩:=(S.there hp).some
  rw [q,← e2,keep p _ q fun j hj z=>c (by rw [S.dis i j p hp z]; exact hj)]
 ·by_cases c:i ∈ ios as
  ·obtain ⟨b,h1,h2⟩:=back_at c
   rw [e] at h1
   cases h1
   cases h2
  ·rw [W9 c] at e
   exact S.vno i hi e
end
section
variable {X:Cx} {x:Str} {p pos:Pos} {e:Expr} {es:List Expr} {R M:List Nat} {f:List Sl → Option (List Ar × List Sl)} {φ:List Sl → Option (D × List Sl)}
structure Kn (X:Cx) (x:Str) (n:Nat) (fr:Fr) (φ:List Sl → Option (D × List Sl)):Prop where
 ex:∃ (CX:CXT) (k:Nat) (a:Addr) (fd:FuncData) (ps:List Str),FnG X.prog X.w X.K X.mg X.base CX k a fd ps (spF X.K ps.length fr φ) ∧ ps.length = n ∧ Room k X.A ∧ X.mg x = some (.ref a) ∧ PySem.W.keepIn X.K (.ref a) = true ∧ Binds X.K fd ps [] ∧ Passes CX X E0
 gd:X.A.guards = some []
 gl:Gl X x
 db:(x == ("__debug__":Str)) = false
theorem Q1B {flat:Bool} {δ δ':List Sl} {z:D} (h:Xc R flat φ f δ = some (z,δ')):∃ as δ1 outs,f δ = some (as,δ1) ∧ Zx R δ1 as = true ∧ φ (as.map (Q3t δ1)) = some (z,outs) ∧ Vl R as outs = true ∧ (R = [] ∨ noL z = true) ∧ δ' = Ym as outs δ1:=by
 unfold Xc at h
 cases e1:f δ with
 | none=>rw [e1] at h; cases h
 | some w =>
  obtain ⟨as,δ1⟩:=w
  rw [e1] at h
  simp only [Q1] at h
  split at h
  ·rename_i ok
   cases e2:φ (as.map (Q3t δ1)) with
   | none=>rw [e2] at h; cases h
   | some w =>
    obtain ⟨d,outs⟩:=w
    rw [e2] at h
    simp only [Q1] at h
    split at h
    ·rename_i oo
     cases h
     simp only [Q3,Bool.or_eq_true,List.isEmpty_iff] at oo
     exact ⟨as,δ1,outs,rfl,ok,e2,oo.1,oo.2.imp id (·.2),rfl⟩
    ·cases h
  ·cases h
theorem Q7S {n:Nat} {flat:Bool} {B:List Nat} (kn:Kn X x n .n φ) (hf:∀ δ as δ',f δ = some (as,δ') → as.length = n ∧ ∀ i ∈ ios as,i ∈ B) (ha:CV X (e :: es) f R M) (h1:starEach (e :: es) X.env = (false,eval e X.env) :: starEach es X.env:=by rfl) (h2:(backTo pos (starEach es X.env)).any (·.1) = false:=by rfl) :
  EV X (.Call (.Name x p) (e :: es) [] pos) (Xc R flat φ f) [] (M ++ B):=by
 obtain ⟨CX,k,a,fd,ps,Fn,hn,hR,hm,hk,hb,hx⟩:=kn.ex
 obtain ⟨t,pa,q⟩:=ha
 refine ⟨_,Fn.pe kn.gd hR kn.gl hm hk hb hx pa kn.db h1 h2,fun Y F H δ σ A S z δ' e Q kk=>?_⟩
 obtain ⟨as,δ1,outs,e1,ok,e2,oo,ef,rfl⟩:=Q1B e
 obtain ⟨hl,hB⟩:=hf _ _ _ e1
 refine q Y F H δ σ A S as δ1 e1 _ fun vs F1 H1 st S1 r=>?_
 show spF X.K ps.length .n φ (vs ++ []) H1 Q E0
 rw [Qx]
 refine ⟨ex R A F1 H1,as.map (Q3t δ1),Wl A as,by rw [Qc,hl,hn],S1.args ok r,z,outs,e2,fun v F2 H2 st2 S2 rv=>?_⟩
 rw [hn,← hl] at st2
 obtain ⟨st3,S3,sU⟩:=S1.behind ok r st2 S2 oo
 refine kk v _ H2 ((st.trans S1 st3).mono fun i hi=>?_) S3 (.inl ?_)
 ·rcases Qo.mp hi with z | z
  ·exact Qf _ z
  ·exact Qm _ (hB i z)
 ·have rv:Rp X.K F2 v z:=rv
  rcases ef with ef | ef
  ·subst ef
   rw [Q0B]
   exact rv
  ·refine rv.flat (fun b xs h=>?_) ef
   rcases h with h | h
   ·refine .inl ?_
    have nb:¬ ∃ i ∈ R,b ∈ A i:=by
     rintro ⟨i,hi,m⟩
     have hb:∀ o,H1 b = some o → F2 b = some o:=fun o eo=>st2.f b o ((if_pos ⟨i,hi,m⟩:ex R A F1 H1 b = H1 b).trans eo)
     rcases S1.there m with ⟨ys,q⟩ | ⟨ys,q⟩ | ⟨_,ys,q⟩ | ⟨_,_,ys,q⟩ | ⟨ys,q⟩
     ·have:=hb _ q
      rcases h with h | ⟨o,h⟩ <;> rw [this] at h <;> cases h
     ·have:=hb _ q
      rcases h with h | ⟨o,h⟩ <;> rw [this] at h <;> cases h
     ·have:=hb _ q
      rcases h with h | ⟨o,h⟩ <;> rw [this] at h <;> cases h
     ·have:=hb _ q
      rcases h with h | ⟨o,h⟩ <;> rw [this] at h <;> cases h
     ·have:=hb _ q
      rcases h with h | ⟨o,h⟩ <;> rw [this] at h <;> cases h
    have q:Q08 R A F2 b = F2 b:=if_neg nb
    unfold Rd at h ⊢
    rw [q]
    exact h
   ·exact .inr h
end
end Z
namespace Z
open PySem PySem.Spec PyProof.Rows L2
section
variable {X:Cx} {pos:Pos}
def tyD:D → String
 | .none => "NoneType"
 | .bool _ => "bool"
 | .int _ => "int"
 | .str _ => "str"
 | .list _ => "list"
 | .tuple _ => "tuple"
 | .dict _ => "dict"
theorem Rp.tyx {K:PySem.W.Frag} {G H:Hp} {v:V} {d:D} (sG:Same G H) (h:Rp K G v d):TyX K H v (.type (tyD d)):=by
 cases h with
 | non=>exact .base .non
 | bl b=>exact .base (.bl b)
 | int i=>exact .base (.int i)
 | str x=>exact .base (.str x)
 | lst e _=>exact .base (.lst (sG _ _ e))
 | dic e _=>exact .fDict (sG _ _ e)
 | tup e _ =>
  rcases e with (e | ⟨o,e⟩) | ⟨o,its,n,e1,e2,_⟩
  ·exact .base (.tup (sG _ _ e))
  ·exact .fTuple (sG _ _ e)
  ·exact .kTuple e1 e2
def Yz (T:String) (d:D):Bool:=match d with
 | .none=>T == "NoneType"
 | .bool _=>T == "bool" || T == "int"
 | .int _=>T == "int"
 | .str _=>T == "str"
 | .list _=>T == "list"
 | .tuple _=>T == "tuple"
 | .dict _=>T == "dict"
def Q8G (T:String):Bool:=["int", "bool", "str", "list", "tuple", "dict"].contains T
theorem Q7P {T:String} (hT:Q8G T = true:=by rfl) (d:D):kitB (tyD d) T = some (Yz T d):=by
 have:T ∈ ["int", "bool", "str", "list", "tuple", "dict"]:=by simpa [Q8G] using hT
 simp only [Q7,Qa,or_false] at this
 rcases this with rfl | rfl | rfl | rfl | rfl | rfl <;> cases d <;> dsimp only [tyD,Yz] <;> decide +kernel
def Z0 (T:String) (d:D):Option D:=some (.bool (Yz T d))
theorem Yt {T:String} {x T':Str} {a:Expr} {fa} {R M:List Nat} {p p2:Pos} (hT:Q8G T = true:=by rfl) (b:Bn X x (.builtin "isinstance")) (c:Bn X T' (.type T)) (ha:EV X a fa R M)
  (h1:starEach [a,.Name T' p2] X.env = (false,eval a X.env) :: starEach [.Name T' p2] X.env:=by rfl) (h2:(backTo pos (starEach [.Name T' p2] X.env)).any (·.1) = false:=by rfl) (h3:starEach [.Name T' p2] X.env = [(false,eval (.Name T' p2) X.env)]:=by rfl) :
  EV X (.Call (.Name x p) [a,.Name T' p2] [] pos) (f1 (Z0 T) fa) [] M:=by
 obtain ⟨t,pa,q⟩:=ha
 have pT:PE X (.Name T' p2) (tC (.ty T)):=pe_bltn c.gl c.mg c.bt rfl c.nn c.db
 refine ⟨_,pe_callB call_isi b.gl b.mg b.bt (pa_cons pa (pa_cons pT pa_nil h3) h1) b.nn b.db h1 h2,fun Y F H δ σ A S z δ' e Q k=>?_⟩
 obtain ⟨d,e1,e2⟩:=Q1q e
 refine q Y F H δ σ A S d δ' e1 _ fun v F1 H1 st S1 r1=>?_
 refine ⟨v,.ty T,.type (tyD d),.type T,Yz T d,rfl,.ty T,(r1.ex S1).tyx (Q06 S1),kit_ty (Q7P hT d),?_⟩
 cases e2
 exact k _ F1 H1 st S1 (.inl (.bl _))
def W5:List D → Option (List Bool)
 | []=>some []
 | .bool b :: r=>(W5 r).map (b :: ·)
 | _=>none
theorem Q0t:∀ {ds:List D} {bs:List Bool},W5 ds = some bs → ds = bs.map Q4
 | [],bs,h=>by cases h; rfl
 | d :: r,bs,h=>by
  cases d <;> simp only [W5] at h <;> try (cases h; done)
  cases e:W5 r with
  | none=>rw [e] at h; cases h
  | some cs =>
   rw [e] at h
   cases h
   rw [Q0t e]
   rfl
theorem Rps.bools {K:PySem.W.Frag} {G:Hp}:∀ {vs:List V} {ns:List Bool},Rps K G vs (ns.map Q4) → vs = ns.map V.bl
 | _,[],.nil=>rfl
 | _,n :: ns,.cons h r=>by
  cases h
  rw [r.bools]
  rfl
def Q7H:D → Option D
 | .list ds=>(W5 ds).map fun bs=>.bool (bs.all id)
 | _=>none
theorem Q8i:Q0z X (rAll X.K) (g1 Q7H):=by
 intro Y F H δ σ A R xs ds z S r hg Q k
 obtain ⟨d,rfl,hg'⟩:=W7 hg
 clear hg
 have hg:=hg'
 obtain ⟨v,rfl,rv⟩:=r.one
 unfold Q7H at hg
 split at hg
 ·rename_i ds'
  cases e:W5 ds' with
  | none=>rw [e] at hg; cases hg
  | some ns =>
   rw [e] at hg
   cases hg
   have e2:=Q0t e
   subst e2
   obtain ⟨a,ys,rfl,h1,r1⟩:=rv.list S
   have e3:=r1.bools
   subst e3
   exact ⟨a,ns,rfl,SqL.of h1,k _ F H Stp.refl S (.bl _)⟩
 ·cases hg
def Q0M (i j:Nat) (f:List Sl → Option (List D × List Sl)):List Sl → Option Out:=fun δ=>(f δ).bind fun p=>match p.1 with
 | [a,b]=>if i < p.2.length ∧ j < p.2.length then some (.nx ((p.2.set i (.fz a)).set j (.fz b))) else none
 | _=>none
theorem Q2P {io:Iom} {fr:Fr} {i j:Nat} {x y:Str} {a b:Expr} {f} {M:List Nat} {px py pt pt2:Pos} {kt k2} (hi:io i = false) (hj:io j = false) (hc:X.calm = true) (T:Tg X i x) (U:Tg X j y) (hij:i ≠ j)
  (hx:X.env.scope.names.lookup x = some .local) (hy:X.env.scope.names.lookup y = some .local) (ha:AV X [a,b] f [] M)
  (hw:swappedStores [.Tuple [.Name x px,.Name y py] kt pt] (.Tuple [a,b] k2 pt2) X.env = pure (some [x,y]):=by rfl)
  (hs:swapsWithSole [.Tuple [.Name x px,.Name y py] kt pt] (.Tuple [a,b] k2 pt2) pos.line X.env = pure false:=by rfl) :
  SV X io fr (.Assign [.Tuple [.Name x px,.Name y py] kt pt] (.Tuple [a,b] k2 pt2) pos) (Q0M i j f):=by
 obtain ⟨t,p,q⟩:=ha
 refine ⟨_,ps_par hc T.nd T.at_ U.at_ hij hx hy p hw hs,fun Y F H δ σ A hY S o e D k=>?_⟩
 unfold Q0M at e
 cases e1:f δ with
 | none=>rw [e1] at e; cases e
 | some w =>
  obtain ⟨ds,δ1⟩:=w
  rw [e1] at e
  simp only [Q1] at e
  split at e
  ·rename_i d1 d2
   split at e
   ·rename_i hl
    cases e
    refine q Y F H δ σ A S _ δ1 e1 _ fun vs F1 H1 st S1 r=>?_
    obtain ⟨v,u,rfl,rv,ru⟩:=r.two
    refine ⟨v,u,rfl,?_⟩
    have S2:=S1.putFz hl.1 (by rw [hY]; exact hi) rv.nil
    have S3:=S2.putFz (i:=j) (by simpa using hl.2) (by rw [hY]; exact hj) ru.nil
    exact k _ F1 H1 _ st.f S3
   ·cases e
  ·cases e
mutual
theorem Q8o {K:PySem.W.Frag} {G:Hp}:∀ {n:Nat} {u:Value} {v:V} {d:D},kRp K n u = some (v,d) → RelV v u ∧ Rp K G v d
 | 0,_,_,_,h=>by unfold kRp at h; cases h
 | n + 1,u,v,d,h=>by
  unfold kRp at h
  split at h
  ·cases h; exact ⟨rfl,.non⟩
  ·cases h; exact ⟨rfl,.bl _⟩
  ·cases h; exact ⟨⟨_,rfl⟩,.int _⟩
  ·cases h; exact ⟨⟨_,rfl⟩,.str _⟩
  ·rename_i a
   split at h
   ·rename_i dd its m sl e
    split at h
    ·rename_i hz
     cases e2:Q5h K n its.toList with
     | none=>rw [e2] at h; cases h
     | some p =>
      obtain ⟨vs,ds⟩:=p
      rw [e2] at h
      cases h
      obtain ⟨h1,h2⟩:=Q4C (G:=G) e2
      exact ⟨rfl,.tup (.inr ⟨_,its,m,e,rfl,rfl,hz,h1⟩) h2⟩
    ·cases h
   ·cases h
  ·cases h
theorem Q4C {K:PySem.W.Frag} {G:Hp}:∀ {n:Nat} {us:List Value} {vs:List V} {ds:List D},Q5h K n us = some (vs,ds) → Vals vs us ∧ Rps K G vs ds
 | 0,_,_,_,h=>by unfold Q5h at h; cases h
 | n + 1,us,vs,ds,h=>by
  unfold Q5h at h
  split at h
  ·cases h; exact ⟨.nil,.nil⟩
  ·rename_i u r
   split at h
   ·rename_i p q e1 e2
    obtain ⟨v1,d1⟩:=p
    obtain ⟨v2,d2⟩:=q
    cases h
    obtain ⟨h1,h2⟩:=Q8o (G:=G) e1
    obtain ⟨h3,h4⟩:=Q4C (G:=G) e2
    exact ⟨.cons h1 h3,.cons h2 h4⟩
   ·cases h
end
structure Gc (X:Cx) (x:Str) (d:D):Prop where
 ex:∃ u v,X.mg x = some u ∧ kRp X.K 40 u = some (v,d)
 db:(x == ("__debug__":Str)) = false
end
end Z
namespace Z
open PySem PySem.Spec PyProof.Rows L2 RT
section
variable {prog:Program} {w:World} {A:Around} {E:Value → Shared → Prop} {s:Shared}
theorem Q6S {R:Result → Shared → Prop} {it l S:Addr} {items:Array Value} (hh:A.handled = none) (hit:s.heap.IsRevIter it l ((items.size:Int) - 1)) (hl:s.heap.IsList l items) (hne:l ≠ it) (hn:items.size ≤ sizeLine)
  (hS:s.heap.get? S = some { cls:=.type "list",data:=.seq #[] }) (hSi:S ≠ it) (hSl:S ≠ l)
  (hR:∀ (h':Heap) (tk:Nat) (acc:Array Value) (c:Nat),(∀ b o,b ≠ S → b ≠ it → s.heap.get? b = some o → h'.get? b = some o) → h'.get? S = some { cls:=.type "list",dict:=none,data:=.seq acc c,slots:=#[] } → ItemsOf (fun i v=>items[items.size - 1 - i]? = some v) acc items.size → R (.ok (.ret .none)) { s with heap:=h',toks:=tk }) :
  wpAny (model prog w) A.in1 (Builtin.«list.__init__» ⟨[.ref S,.ref it],[]⟩)
   (fun fin s'=>match fin with | .done f=>R (.ok f) s' | .again c'=>c'.quiet = true ∧ codeAny (model prog w) A c' R s') (fun e s'=>R (.error e) s') s:=by
 have W:=(Walks.listRev (prog:=prog) (w:=w) (A:=A.in1) hh it l hne items).toS
 show wpAny _ A.in1 (do let old ← Builtin.List.listItems (.ref S); Builtin.List.listUpdate (.ref S) (fun _=>#[]); letGo old.toList.reverse; Builtin.List.listExtendWith (.ref S) (.ref it) .none) _ _ s
 refine wpAny_bind ?_
 unfold Builtin.List.listItems
 refine wpAny_bind (wpAny_seqItems hS rfl (wpAny_pure ?_))
 show wpAny _ A.in1 (updateSeq S (fun _=>#[]) >>= fun _=>letGo (#[]:Array Value).toList.reverse >>= fun _=>Builtin.List.listExtendWith (.ref S) (.ref it) .none) _ _ s
 refine wpAny_bind (wpAny_updateSeq hS rfl ?_)
 have hS₂:=Heap.get?_update_self (Obj.mapSeq (fun _=>(#[]:Array Value))) hS rfl
 have oth:∀ b o,b ≠ S → s.heap.get? b = some o → (s.heap.update S (Obj.mapSeq (fun _=>(#[]:Array Value)))).get? b = some o :=
  fun b o hb e=>(Heap.get?_update_other _ _ (Ne.symm hb)).trans e
 refine wpAny_bind (wpAny_letGo ?_)
 generalize hs1:({ s with heap:=s.heap.update S (Obj.mapSeq (fun _=>(#[]:Array Value))) }:Shared) = s1
 have hit1:s1.heap.IsRevIter it l ((items.size:Int) - 1):=by
  subst hs1
  exact hit.at fun o e=>oth it o (Ne.symm hSi) e
 have hl1:s1.heap.IsList l items:=by
  subst hs1
  obtain ⟨o,e,c⟩:=hl
  exact ⟨o,oth l o (Ne.symm hSl) e,c⟩
 have hT:s1.TypeIs (.ref it) "list_reverseiterator":=Heap.IsRevIter.typeIs hit1
 have hS₁:s1.heap.get? S = some { cls:=.type "list",data:=.seq #[] }:=by
  subst hs1
  exact hS₂
 have oth1:∀ b o,b ≠ S → s.heap.get? b = some o → s1.heap.get? b = some o:=by
  subst hs1
  exact oth
 have hSf:S ∉ [it,l]:=by simp only [Q7,Qa,or_false,not_or]; exact ⟨hSi,hSl⟩
 have es:∀ h' tk,({ s with heap:=h',toks:=tk }:Shared) = { s1 with heap:=h',toks:=tk }:=by
  subst hs1
  intro h' tk
  rfl
 have h1:Builtin.List.listSameRef (.ref S) (.ref it) = false:=by simp [Builtin.List.listSameRef,hSi]
 unfold Builtin.List.listExtendWith
 refine wpAny_bind (wpAny_typeOf hT ?_)
 rw [if_neg (by rw [h1]; decide)]
 refine wpAny_bind (wpAny_pyIter_revIter hit1 ?_)
 refine wpAny_bind (wpAny_holding ?_)
 unfold Builtin.List.listLengthHint
 refine wpAny_bind (wpAny_specialOf hT nolen_lri ?_)
 show wpAny _ A.in1 (specialOf (Value.ref it) (Str.ofString "__length_hint__") >>= _) _ _ _
 refine wpAny_bind (wpAny_specialOf hT hint_lri ?_)
 generalize hid:("list_reverseiterator.__length_hint__":String) = id0
 wp_delta
 rw [show splitId id0 = some ("list_reverseiterator", "__length_hint__") from by subst hid; decide +kernel]
 subst hid
 refine wpAny_bind (wpAny_isInstance (b:=true) hT (by rw [isSubtype_type]; kernel_rfl) ?_)
 refine wpAny_pure ?_
 rw [if_neg (by decide)]
 have e0:((items.size:Nat):Int) - 1 - ((0:Nat):Int) = (items.size:Int) - 1:=by omega
 refine wpAny_pure ⟨plainId_quiet F.plain_extend_loop _,codeAny_extend_loopS W hn _ hSf _ items.size 0 _ _ _ rfl (J3 _) ⟨J3 _,by rw [e0]; exact hit1,hl1⟩ hS₁ (ItemsOf.nil _) fun s' acc' c' hm hS' hacc=>?_⟩
 rw [Moved.eq_with hm,← es]
 refine hR s'.heap s'.toks acc' c' (fun b o hb hb2 e=>hm.heap b o (fun hmem=>?_) (oth1 b o hb e)) hS' hacc
 rcases Q7.mp hmem with e' | hmem
 ·exact hb e'
 ·exact hb2 (List.mem_singleton.mp hmem)
theorem Q27 {it l:Addr} {items:Array Value} {Q:Value → Shared → Prop} (hh:A.handled = none) (hit:s.heap.IsRevIter it l ((items.size:Int) - 1)) (hl:s.heap.IsList l items) (hne:l ≠ it) (hn:items.size ≤ sizeLine)
  (hQ:∀ (h':Heap) (tk:Nat) (acc:Array Value) (c:Nat),(∀ b o,b ≠ it → s.heap.get? b = some o → h'.get? b = some o) → h'.get? s.heap.objs.size = some { cls:=.type "list",dict:=none,data:=.seq acc c,slots:=#[] } → ItemsOf (fun i v=>items[items.size - 1 - i]? = some v) acc items.size →
   Q (.ref s.heap.objs.size) { s with heap:=h',toks:=tk }) :
  wpAny (model prog w) A (call (.type "list") [.ref it]) Q E s:=by
 obtain ⟨oi,hoi,_⟩:=id hit
 obtain ⟨ol,hol,_⟩:=id hl
 refine callType_codes (Q₁:=fun obj s₁=>obj = .ref s.heap.objs.size ∧ s₁ = { s with heap:=s.heap.push { cls:=.type "list",data:=.seq #[] } }) F.called_list (F.typeCall_list_1 _) F.entry_list_init
  (code_list_new _ ⟨rfl,rfl⟩) fun obj s₁ h₁=>?_
 obtain ⟨rfl,rfl⟩:=h₁
 have hS:(s.heap.push { cls:=.type "list",data:=.seq #[] }).get? s.heap.objs.size = some { cls:=.type "list",data:=.seq #[] }:=Heap.get?_push_size _ rfl
 refine ⟨⟨_,hS,rfl⟩,F.args_list_init_2 _ _,Q6S (A:=A.in1) (s:={ s with heap:=s.heap.push { cls:=.type "list",data:=.seq #[] } }) hh (hit.at fun o e=>Heap.get?_push_of_some _ e) (hl.push _) hne hn hS (Nat.ne_of_gt (Heap.lt_size hoi)) (Nat.ne_of_gt (Heap.lt_size hol)) fun h' tk acc c hk hS' hacc=>?_⟩
 exact ⟨rfl,hQ h' tk acc c (fun b o hb e=>hk b o (Nat.ne_of_lt (Heap.lt_size e)) hb (Heap.get?_push_of_some _ e)) hS' hacc⟩
end
def Q7W (K:PySem.W.Frag) (te:TE):TE:=fun σ H Q=>te σ H fun v H1=>∃ (a:Addr) (xs:List V),v = .ref a ∧ SqL K H1 a xs ∧ ∀ q,H1 q = none → Q (.ref q) (upd H1 q (.lst xs.reverse))
section
variable {X:Cx}
theorem Q4Z {e:Expr} {te:TE} {p p2 pos pos2:Pos} (hc:X.calm = true) (hg:Gl X "list") (hm:X.mg "list" = none) (hg2:Gl X "reversed") (hm2:X.mg "reversed" = none) (he:PE X e te)
  (hs:starEach [e] X.env = (false,eval e X.env) :: starEach [] X.env:=by rfl)
  (hs2:starEach [.Call (.Name "reversed" p2) [e] [] pos2] X.env = (false,eval (.Call (.Name "reversed" p2) [e] [] pos2) X.env) :: starEach [] X.env:=by rfl) :
  PE X (.Call (.Name "list" p) [.Call (.Name "reversed" p2) [e] [] pos2] [] pos) (Q7W X.K te):=by
 refine ⟨fun pins s σ H Q I h=>?_⟩
 refine Call_ (ld_blt I hg hm boot_list (PyProof.Rows.callWith_type1 (args_cons (Call_ (ld_blt I hg2 hm2 PyProof.Rows.boot_reversed (PyProof.Rows.callWith_type1 (args_cons (thn (he.run pins s σ H _ I h) fun u s1 ⟨v,H1,I1,r1,q1⟩=>args_nil ?_) hs) hs rfl))) hs2) hs2 rfl))
 obtain ⟨a,xs,ev,hq,q⟩:=q1
 subst ev
 obtain rfl:u = Value.ref a:=r1
 obtain ⟨its,rv,p',hz⟩:=I1.list hq
 refine call_reversed_list p'.isList (args_nil ?_)
 have k0:∀ b o,s1.heap.get? b = some o → (s1.heap.push (revObj a ((its.toArray.size:Int) - 1))).get? b = some o:=fun b o e=>Heap.get?_push_of_some _ e
 have I2:Inv X pins σ H1 { s1 with heap:=s1.heap.push (revObj a ((its.toArray.size:Int) - 1)) }:=I1.kept (t':=s1.toks) k0
 obtain ⟨f0,f1,f2,f3,f4,f5⟩:=I1.fpOk (H':=H1) (b:=s1.heap.objs.size) (Q5 _) (I1.hok.fresh (Q5 _))
 have hl:=p'.isList
 obtain ⟨ol,hol,_⟩:=id hl
 have hne:a ≠ s1.heap.objs.size:=Nat.ne_of_lt (Heap.lt_size hol)
 have hn:its.toArray.size ≤ sizeLine:=by rw [Ja,← rv.length]; exact hz
 refine Q27 (s:={ s1 with heap:=s1.heap.push (revObj a ((its.toArray.size:Int) - 1)) }) (I1.ok.hd hc) ⟨_,Heap.get?_push_size _ rfl,rfl,rfl⟩ (hl.push _) hne hn fun h' tk acc c hk hS hi=>?_
 have hL:Inv X pins σ (upd H1 (s1.heap.push (revObj a ((its.toArray.size:Int) - 1))).objs.size (.lst xs.reverse)) { s1 with heap:=(s1.heap.push (revObj a ((its.toArray.size:Int) - 1))).push { cls:=.type "list",dict:=none,data:=.seq acc c,slots:=#[] } } :=
  I2.laid (t':=s1.toks) (fun b o e=>Heap.get?_push_of_some _ e) (Q5 _) (show ObjOk X.prog X.w _ _ _ (.lst xs.reverse) from ⟨by rw [Jc]; exact hz,acc.toList,c,vals_rev rv hi,by rw [Array.toArray_toList]; exact Heap.get?_push_size _ rfl⟩)
 have hf:H1 (s1.heap.push (revObj a ((its.toArray.size:Int) - 1))).objs.size = none:=I2.hok.fresh (Q5 _)
 have hne2:s1.heap.objs.size ≠ (s1.heap.push (revObj a ((its.toArray.size:Int) - 1))).objs.size:=Nat.ne_of_lt (Heap.lt_size (Heap.get?_push_size s1.heap (o:=revObj a ((its.toArray.size:Int) - 1)) rfl))
 have I4:Inv X pins σ (upd H1 (s1.heap.push (revObj a ((its.toArray.size:Int) - 1))).objs.size (.lst xs.reverse)) { s1 with heap:=h',toks:=tk }:=by
  refine Inv.turned (s:={ s1 with heap:=(s1.heap.push (revObj a ((its.toArray.size:Int) - 1))).push { cls:=.type "list",dict:=none,data:=.seq acc c,slots:=#[] } }) (h':=h') (t':=tk) (it:=s1.heap.objs.size) hL (fun b o hb e=>?_) (by rw [upd_ne hne2]; exact f0) f1 f3 f4 f5
  by_cases cq:b = (s1.heap.push (revObj a ((its.toArray.size:Int) - 1))).objs.size
  ·subst cq
   have e:=(Heap.get?_push_size (s1.heap.push (revObj a ((its.toArray.size:Int) - 1))) (o:={ cls:=.type "list",dict:=none,data:=.seq acc c,slots:=#[] }) rfl).symm.trans e
   cases e
   exact hS
  ·have hlt:=Heap.lt_size e
   have e':(s1.heap.push (revObj a ((its.toArray.size:Int) - 1))).get? b = some o:=by
    rcases Heap.get?_push_cases e with z | z
    ·exact absurd z.1 cq
    ·exact z
   exact hk b o hb e'
 exact ⟨.ref _,_,I4,rfl,q _ hf⟩
end
end Z
namespace Z
open PySem PySem.Spec PyProof.Rows L2
section
variable {K:PySem.W.Frag} {Y:Fx} {F F' H H':Hp} {δ:List Sl} {σ:L2.St} {A:Nat → List Addr} {i:Nat}
theorem SR.chgS (S:SR K Y F H δ σ A) (hi:i < δ.length) {s':Sl} (hH:∀ a,a ∉ A i → H' a = H a) (h:Wx K F H' s' (jn σ[i]?) (A i)) (hob:∀ c fs,s' ≠ Sl.ob c fs:=by intro _ _; simp) (hno:s' ≠ Sl.no:=by simp):SR K Y F H' (δ.set i s') σ A:=by
 refine ⟨by rw [J8]; exact S.len,fun j t e=>?_,fun j e=>?_,S.dis,S.hid,S.new,fun b x e=>?_,S.fix,S.ioA,fun a x e n=>?_,S.nw,S.f0,S.lio,S.ob_set hi hob (fun j c a ha=>hH a fun z=>c (S.dis j i a ha z)),S.vno_set hi hno⟩
 ·by_cases c:j = i
  ·subst c
   rw [Qk hi] at e
   cases e
   exact h
  ·rw [Qe (Ne.symm c)] at e
   refine (S.slot j t e).mono (Same.refl _) fun a ha=>hH a fun z=>c (S.dis j i a ha z)
 ·by_cases c:j = i
  ·subst c
   rw [Qk hi] at e
   cases e
  ·rw [Qe (Ne.symm c)] at e
   exact S.out j e
 ·rw [hH]
  ·exact S.sub b x e
  ·intro z
   rw [S.hid i b z] at e
   cases e
 ·rw [hH]
  ·exact S.kp a x e n
  ·intro z
   cases hio:Y.lt i with
   | false =>
    rw [S.new i a z hio] at e
    cases e
   | true =>
    rw [(S.fix i hio).2] at z
    exact n i hio z
theorem Stp.chgS {M:List Nat} (hM:i ∈ M) (hH:∀ a,a ∉ A i → H' a = H a):Stp A M F H F H' :=
 ⟨Same.refl _,fun a e n=>absurd e n,fun a x e n=>by rw [hH a (n i hM)]; exact e⟩
def Wm (i:Nat) (δ:List Sl):Option (List Int × Int × Int):=match δ[i]? with
 | some (.dk cs m n)=>some (cs,m,n)
 | _=>none
theorem Q2u {w:List Int × Int × Int} (h:Wm i δ = some w):δ[i]? = some (.dk w.1 w.2.1 w.2.2):=by
 unfold Wm at h
 split at h
 ·rename_i e; cases h; exact e
 ·cases h
theorem SR.dk (S:SR K Y F H δ σ A) {w:List Int × Int × Int} (h:Wm i δ = some w):∃ p q,σ[i]? = some (some (.ref p)) ∧ A i = [p,q] ∧ H p = some (.lst [.ref q,.int w.2.1,.int w.2.2]) ∧ H q = some (.lst (w.1.map V.int)):=by
 obtain ⟨p,q,e1,e2,h1,h2⟩:=S.slot i _ (Q2u h)
 exact ⟨p,q,Vc e1,e2,h1,h2⟩
theorem SR.dkI (S:SR K Y F H δ σ A) {w:List Int × Int × Int} (h:Wm i δ = some w):i < δ.length:=(Qg.mp (Q2u h)).1
theorem Q6O {w:List Int} {H:Hp} {p q:Addr} {m n:Int} (h1:H p = some (.lst [.ref q,.int m,.int n])) (h2:H q = some (.lst (w.map V.int))):p ≠ q:=by
 intro e
 subst e
 rw [h1] at h2
 have h3:[V.ref p,V.int m,V.int n] = w.map V.int:=by
  injection h2 with h2
  injection h2
 cases w with
 | nil=>cases h3
 | cons a b =>
  rw [Qp] at h3
  injection h3 with h4
  cases h4
end
section
variable {X:Cx} {x:Str} {i:Nat} {pos p1 p2 apos:Pos}
def Q6j (i:Nat):List Sl → Option (D × List Sl):=fun δ=>(Wm i δ).map fun w=>(.int w.2.1,δ)
def Q1U (i:Nat):List Sl → Option (D × List Sl):=fun δ=>(Wm i δ).map fun w=>(.int w.2.2,δ)
theorem Q8T {j} {p3} (hu:X.A.units + 1 < cLine) (n:Nm X i x) (hs:PlainIx (.Constant (.int 1) j p3):=by intro _ _; rfl):EV X (.Subscript (.Name x p1) (.Constant (.int 1) j p3) pos) (Q6j i) [] []:=by
 refine ⟨_,pe_ix (Q5c hu) n.pe pe_int hs,fun Y F H δ σ A S z δ' e Q k=>?_⟩
 unfold Q6j at e
 cases e0:Wm i δ with
 | none=>rw [e0] at e; cases e
 | some w =>
  rw [e0] at e
  cases e
  obtain ⟨p,q,s1,s2,s3,s4⟩:=S.dk e0
  exact ⟨.ref p,s1,.inl (.inl ⟨p,_,1,.int w.2.1,rfl,rfl,SqL.of s3,rfl,k _ F H Stp.refl S (.inl (.int _))⟩)⟩
theorem Q40 {j} {p3} (hu:X.A.units + 1 < cLine) (n:Nm X i x) (hs:PlainIx (.Constant (.int 2) j p3):=by intro _ _; rfl):EV X (.Subscript (.Name x p1) (.Constant (.int 2) j p3) pos) (Q1U i) [] []:=by
 refine ⟨_,pe_ix (Q5c hu) n.pe pe_int hs,fun Y F H δ σ A S z δ' e Q k=>?_⟩
 unfold Q1U at e
 cases e0:Wm i δ with
 | none=>rw [e0] at e; cases e
 | some w =>
  rw [e0] at e
  cases e
  obtain ⟨p,q,s1,s2,s3,s4⟩:=S.dk e0
  exact ⟨.ref p,s1,.inl (.inl ⟨p,_,2,.int w.2.2,rfl,rfl,SqL.of s3,rfl,k _ F H Stp.refl S (.inl (.int _))⟩)⟩
def Q5i (i:Nat):List Sl → Option (Bool × List Sl):=fun δ=>(Wm i δ).bind fun w=>(eqD (.list (w.1.map Q0)) (.list [])).map fun b=>(b,δ)
theorem Q8y {j} {p3 p4} (hu:X.A.units + 65 < cLine) (n:Nm X i x) (hs:PlainIx (.Constant (.int 0) j p3):=by intro _ _; rfl) (hm:behindInMarks .Eq (.List [] p4) = false:=by rfl):TV X (.Compare (.Subscript (.Name x p1) (.Constant (.int 0) j p3) p2) [.Eq] [.List [] p4] pos) (Q5i i) []:=by
 refine ⟨_,pt_cmpR (K4 hu).op (pe_ix (Q5c (by omega)) n.pe pe_int hs) (pe_lst pa_nil) hm,fun Y F H δ σ A S z δ' e Q k=>?_⟩
 unfold Q5i at e
 cases e0:Wm i δ with
 | none=>rw [e0] at e; cases e
 | some w =>
  rw [e0] at e
  simp only [Q1] at e
  cases e1:eqD (.list (w.1.map Q0)) (.list []) with
  | none=>rw [e1] at e; cases e
  | some b =>
   rw [e1] at e
   cases e
   obtain ⟨p,q,s1,s2,s3,s4⟩:=S.dk e0
   refine ⟨.ref p,s1,.inl (.inl ⟨p,_,0,.ref q,rfl,rfl,SqL.of s3,rfl,?_⟩)⟩
   refine ⟨J3 _,fun c hc=>?_⟩
   have ne:q ≠ c:=fun z=>by rw [z] at s4; rw [s4] at hc; cases hc
   refine ⟨upd H c (.lst []),_,_,z,Same.refl _,.lst (by rw [upd_ne ne]; exact s4) (Q1Z _),.lst upd_same .nil,e1,?_⟩
   exact ⟨z,rfl,k F _ (Stp.laidO hc) (S.laidO hc)⟩
def Q1F (i:Nat):List Sl → Option (D × List Sl):=fun δ=>(Wm i δ).bind fun w=>(w.1[w.1.length - 1]?).map fun d=>(.int d,δ.set i (.dk w.1.dropLast w.2.1 w.2.2))
theorem Q5t {j} {p3} (hu:X.A.units + 1 < cLine) (n:Nm X i x) (hs:PlainIx (.Constant (.int 0) j p3):=by intro _ _; rfl) (m:Mc0 X (.Subscript (.Name x p1) (.Constant (.int 0) j p3) p2) "pop" apos pos) :
  EV X (.Call (.Attribute (.Subscript (.Name x p1) (.Constant (.int 0) j p3) p2) "pop" apos) [] [] pos) (Q1F i) [] [i]:=by
 refine ⟨_,pe_bm0 PySem.F.plainAttrs_list PySem.F.slot_list_pop PySem.F.type_list_pop mt_pop (pe_ix (Q5c hu) n.pe pe_int hs) m.base m.line,fun Y F H δ σ A S z δ' e Q k=>?_⟩
 unfold Q1F at e
 cases e0:Wm i δ with
 | none=>rw [e0] at e; cases e
 | some w =>
  rw [e0] at e
  simp only [Q1] at e
  cases e1:w.1[w.1.length - 1]? with
  | none=>rw [e1] at e; cases e
  | some d =>
   rw [e1] at e
   cases e
   obtain ⟨p,q,s1,s2,s3,s4⟩:=S.dk e0
   have hpq:=Q6O s3 s4
   refine ⟨.ref p,s1,.inl (.inl ⟨p,_,0,.ref q,rfl,rfl,SqL.of s3,rfl,?_⟩)⟩
   refine ⟨tyL s4,q,_,.int d,rfl,rfl,s4,by rw [Qc,Qn,e1]; rfl,?_⟩
   have out:∀ a,a ∉ A i → upd H q (.lst (w.1.map V.int).dropLast) a = H a:=fun a ha=>upd_ne fun z=>ha (by rw [s2,z]; simp)
   refine k _ F _ (Stp.chgS (i:=i) (by simp) out) (S.chgS (S.dkI e0) out ⟨p,q,by rw [s1]; rfl,s2,?_,?_⟩) (.inl (.int _))
   ·rw [upd_ne hpq]
    exact s3
   ·rw [upd_same,List.map_dropLast]
def Q0F (i:Nat) (f:List Sl → Option (D × List Sl)):List Sl → Option (D × List Sl):=fun δ=>(Wm i δ).bind fun _=>(f δ).bind fun p=>match p.1 with
 | .int v=>(Wm i p.2).bind fun w=>if w.1.length < sizeLine then some (.none,p.2.set i (.dk (w.1 ++ [v]) w.2.1 w.2.2)) else none
 | _=>none
theorem Q56 {j} {p3} {e:Expr} {f} (hu:X.A.units + 1 < cLine) (n:Nm X i x) (hs:PlainIx (.Constant (.int 0) j p3):=by intro _ _; rfl) (h:EV X e f [] []) (m:Mc X (.Subscript (.Name x p1) (.Constant (.int 0) j p3) p2) "append" apos e [] pos) :
  EV X (.Call (.Attribute (.Subscript (.Name x p1) (.Constant (.int 0) j p3) p2) "append" apos) [e] [] pos) (Q0F i f) [] [i]:=by
 obtain ⟨t,pe,q⟩:=h
 refine ⟨_,pe_bm PySem.F.plainAttrs_list PySem.F.slot_list_append PySem.F.type_list_append mt_append (pe_ix (Q5c hu) n.pe pe_int hs) (pa_cons pe pa_nil m.star) m.base m.few m.line m.star m.plain,fun Y F H δ σ A S z δ' e Q k=>?_⟩
 unfold Q0F at e
 cases e0:Wm i δ with
 | none=>rw [e0] at e; cases e
 | some w0 =>
  rw [e0] at e
  simp only [Q1] at e
  cases e1:f δ with
  | none=>rw [e1] at e; cases e
  | some u =>
   obtain ⟨d,δ1⟩:=u
   rw [e1] at e
   simp only [Q1] at e
   split at e
   ·rename_i v
    cases e2:Wm i δ1 with
    | none=>rw [e2] at e; cases e
    | some w =>
     rw [e2] at e
     simp only [Q1] at e
     split at e
     ·rename_i hz
      cases e
      obtain ⟨p,q0,s1,s2,s3,s4⟩:=S.dk e0
      refine ⟨.ref p,s1,.inl (.inl ⟨p,_,0,.ref q0,rfl,rfl,SqL.of s3,rfl,?_⟩)⟩
      refine ⟨tyL s4,?_⟩
      refine q Y F H δ σ A S _ δ1 e1 _ fun y F1 H1 st S1 r=>?_
      obtain ⟨p',q',t1,t2,t3,t4⟩:=S1.dk e2
      have:q' = q0:=by
       rw [s2] at t2
       injection t2 with _ t2
       injection t2 with t2
       exact t2.symm
      subst this
      rw [r.int]
      have hpq:=Q6O t3 t4
      refine ⟨q',_,.int v,rfl,rfl,t4,by rw [Qc]; exact hz,?_⟩
      have out:∀ a,a ∉ A i → upd H1 q' (.lst (w.1.map V.int ++ [.int v])) a = H1 a:=fun a ha=>upd_ne fun z=>ha (by rw [t2,z]; simp)
      refine k _ F1 _ (((st.mono fun _ h=>h).trans S1 (Stp.chgS (M:=[i]) (i:=i) (by simp) out)).mono fun j hj=>by simpa using hj) (S1.chgS (S1.dkI e2) out ⟨p',q',by rw [t1]; rfl,t2,?_,?_⟩) (.inl .non)
      ·rw [upd_ne hpq]
       exact t3
      ·rw [upd_same,List.map_append]
       rfl
     ·cases e
   ·cases e
def Q5k (i:Nat) (f:List Sl → Option (D × List Sl)):List Sl → Option Out:=fun δ=>(f δ).bind fun p=>match p.1 with
 | .int v=>(Wm i p.2).map fun w=>.nx (p.2.set i (.dk w.1 w.2.1 v))
 | _=>none
theorem Q8L {io:Iom} {fr:Fr} {j} {p3} {v:Expr} {fv} {M:List Nat} {p1 tpos:Pos} (hu:X.A.units + 1 < cLine) (n:Nm X i x) (hv:EV X v fv [] M) (c:Pc X (.Name x p1) (.Constant (.int 2) j p3) v tpos pos.line) :
  SV X io fr (.Assign [.Subscript (.Name x p1) (.Constant (.int 2) j p3) tpos] v pos) (Q5k i fv):=by
 obtain ⟨tv,pv,qv⟩:=hv
 refine ⟨_,ps_asg pv (pg_sub n.pe pe_int (Q9s hu) c.as) c.sw c.st c.ea,fun Y F H δ σ A hY S o e D k=>?_⟩
 unfold Q5k at e
 cases e1:fv δ with
 | none=>rw [e1] at e; cases e
 | some u =>
  obtain ⟨d,δ1⟩:=u
  rw [e1] at e
  simp only [Q1] at e
  split at e
  ·rename_i v'
   cases e2:Wm i δ1 with
   | none=>rw [e2] at e; cases e
   | some w =>
    rw [e2] at e
    cases e
    refine qv Y F H δ σ A S _ δ1 e1 _ fun y F1 H1 st S1 r=>?_
    obtain ⟨p,q,s1,s2,s3,s4⟩:=S1.dk e2
    refine ⟨.ref p,s1,?_⟩
    rw [r.int]
    have hpq:=Q6O s3 s4
    refine .inl ⟨p,_,2,2,rfl,rfl,s3,rfl,?_⟩
    have out:∀ a,a ∉ A i → upd H1 p (.lst ([V.ref q,.int w.2.1,.int w.2.2].set 2 (.int v'))) a = H1 a:=fun a ha=>upd_ne fun z=>ha (by rw [s2,z]; simp)
    refine k σ F1 _ A st.f (S1.chgS (S1.dkI e2) out ⟨p,q,by rw [s1]; rfl,s2,?_,?_⟩)
    ·rw [upd_same]
     rfl
    ·rw [upd_ne (Ne.symm hpq)]
     exact s4
  ·cases e
end
end Z
namespace Z
open PySem PySem.Spec PyProof.Rows L2
def Xy (ns:List Int):List Int:=(ns.take 63).reverse
def Q1L (ns:List Int):Int:=(Xy ns).sum % 2147483629 + 48271 * (Xy ns).length
theorem Qa2 {α:Type} (xs:List α):Yy xs none (some 63) = xs.take 63:=by
 unfold Yy
 rw [show HT.sIx xs.length 0 none = 0 from rfl,List.drop_zero,Nat.sub_zero]
 have h:HT.sIx xs.length xs.length (some 63) = min 63 xs.length:=by
  unfold HT.sIx
  simp
  try omega
 rw [h]
 by_cases c:xs.length ≤ 63
 ·rw [Nat.min_eq_right c,List.take_of_length_le (Q5 _),List.take_of_length_le c]
 ·rw [Nat.min_eq_left (by omega)]
section
variable {X:Cx} {x:Str} {i:Nat} {pos:Pos}
def Q2L (i:Nat):List Sl → Option (D × List Sl):=fun δ=>match δ[i]? with
 | some (.scr ns)=>some (.list ((Xy ns).map Q0),δ)
 | _=>none
theorem Q52 {p p2 pos2 p3 p4 p5 p6:Pos} {j} (hc:X.calm = true) (hg:Gl X "list") (hm:X.mg "list" = none) (hg2:Gl X "reversed") (hm2:X.mg "reversed" = none) (n:Nm X i x)
  (hs:starEach [.Subscript (.Name x p3) (.Slice none (some (.Constant (.int 63) j p6)) none p4) p5] X.env = (false,eval (.Subscript (.Name x p3) (.Slice none (some (.Constant (.int 63) j p6)) none p4) p5) X.env) :: starEach [] X.env)
  (hs2:starEach [.Call (.Name "reversed" p2) [.Subscript (.Name x p3) (.Slice none (some (.Constant (.int 63) j p6)) none p4) p5] [] pos2] X.env = (false,eval (.Call (.Name "reversed" p2) [.Subscript (.Name x p3) (.Slice none (some (.Constant (.int 63) j p6)) none p4) p5] [] pos2) X.env) :: starEach [] X.env) :
  NV X (.Call (.Name "list" p) [.Call (.Name "reversed" p2) [.Subscript (.Name x p3) (.Slice none (some (.Constant (.int 63) j p6)) none p4) p5] [] pos2] [] pos) (Q2L i) []:=by
 refine ⟨_,Q4Z hc hg hm hg2 hm2 (pe_slice sl_list n.pe po_none (po_some pe_int)) hs hs2,fun Y F H δ σ A S z δ' e Q k=>?_⟩
 unfold Q2L at e
 split at e
 ·rename_i ns e0
  cases e
  obtain ⟨e1,a,e2,e3⟩:=S.slot i _ e0
  refine ⟨.ref a,Vc e2,63,rfl,a,ns.map V.int,rfl,S.sub.seq e3,fun b hb=>?_⟩
  have ec:cutV (ns.map V.int) none (some 63) = (ns.take 63).map V.int:=by
   show Yy (ns.map V.int) none (some 63) = _
   rw [Qa2,List.map_take]
  refine ⟨b,_,rfl,.inl (.inl upd_same),fun c hc2=>?_⟩
  rw [ec] at hc2 ⊢
  rw [← List.map_reverse]
  have hcb:H c = none:=by
   by_cases z:c = b
   ·subst z
    exact hb
   ·rw [upd_ne z] at hc2
    exact hc2
  have S1:=S.laidO (o:=.lst ((ns.take 63).map V.int)) hb
  have S2:=S1.laidO (p:=c) (o:=.lst ((ns.take 63).reverse.map V.int)) hc2
  have st:Stp A [] F H F (upd (upd H b (.lst ((ns.take 63).map V.int))) c (.lst ((ns.take 63).reverse.map V.int))) :=
   Yo S1 (Stp.laidO hb) (Stp.laidO hc2)
  exact k c F _ st S2 hcb (S.sub.free hcb) ⟨_,upd_same,Q1Z _⟩
 ·cases e
end
def Q96 (K:PySem.W.Frag):Sp:=fun us H Q _=>∃ (u:V) (F:Hp) (ns:List Int),us = [u] ∧ Same F H ∧ (∃ a,u = .ref a ∧ SqL K F a (ns.map V.int)) ∧
 ∀ p q F' H',Stp (fun _=>[]) [] F H F' H' → Same F' H' → H p = none → H q = none → F' p = none → F' q = none → p ≠ q → H' p = some (.lst [.ref q,.int (Q1L ns),.int 0]) → H' q = some (.lst ((Xy ns).map V.int)) → Q (.ref p) H'
section
variable {P:Program} {w:World} {K:PySem.W.Frag} {mg:Str → Option Value} {base:Heap} {CX:CXT} {k:Nat} {f:Addr} {fd:FuncData} {x y:Str}
theorem Q7m {qual:Str} {st:Stmt} {nm:Str} {s1:Stmt} {e1 e2:Expr} {f1:List Sl → Option (D × List Sl)} {p1 p2 p3:Pos} (Fu:Fun K nm qual st f fd) (S:FnScope [x,y] [x] (defScope st)) (hbd:defBody st = [s1,.Return (some (.List [.Name y p1,e1,e2] p2)) p3])
  (hf:∀ ns,f1 [.scr ns,.ow (.list ((Xy ns).map Q0))] = some (.int (Q1L ns),[.scr ns,.ow (.list ((Xy ns).map Q0))]))
  (body:∀ (cd:Value) (A:Around) (out:List Env) (s:Shared) (G:Hp) (E:XK),A.guards = some [] → Room k (A.deeper (envOfC qual (defScope st) s.heap.objs.size f cd)) →
   SV (cxOf CX P w K mg base [x,y] qual (defScope st) f cd A out s G E) (Iom.of fun _=>false) .n s1 (Q3Q 1 (Q2L 0)) ∧
   CV (cxOf CX P w K mg base [x,y] qual (defScope st) f cd A out s G E) [.Name y p1,e1,e2] (kIo 1 (X4 f1 (X4 (Jl (.int 0)) Yb))) [] []) :
  FnG P w K mg base CX (k + 1) f fd [x] (Q96 K):=by
 refine FnG.mk' Fu S (fun us G Q E h=>by obtain ⟨u,_,_,rfl,_⟩:=h; rfl) fun cd A out s G us Q E hG hR h=>?_
 obtain ⟨⟨t1,q1,b1⟩,⟨t2,q2,b2⟩⟩:=body cd A out s G E hG hR
 obtain ⟨u,F,ns,rfl,sF,⟨a,rfl,hs⟩,kk⟩:=h
 rw [hbd]
 refine ⟨_,pss_cons q1 (pss_cons (ps_ret (pe_lst q2)) pss_nil),?_⟩
 have S0:SR K ⟨Iom.of fun _=>false,fun _=>false,fun _=>false,G,F,[],fun _=>[],fun _ _=>rfl⟩ F G [.scr ns,.no] (L2.start [x,y] [.ref a]) (fun _=>[]):=by
  refine ⟨rfl,fun i s e=>?_,fun _ _=>rfl,fun _ _ _ h=>by simp at h,fun _ _ h=>by simp at h,fun _ _ h=>by simp at h,sF,fun _ h=>by simp at h,fun _ h=>by simp at h,fun _ _ e _=>e,fun _ e n=>absurd e n,Same.refl _,fun _ h=>(by rcases h with h | h <;> cases h),fun i _ _ e=>(by match i,e with | 0,e=>cases e | 1,e=>cases e | _ + 2,e=>simp at e),fun _ h=>by cases h⟩
  match i,e with
  | 0,e=>cases e; exact ⟨rfl,a,rfl,hs⟩
  | 1,e=>cases e; exact rfl
  | _ + 2,e=>simp at e
 refine b1 _ F G _ _ _ rfl S0 (.nx [.scr ns,.ow (.list ((Xy ns).map Q0))]) rfl _ ?_
 intro σ' F1 H1 A1 s01 S1
 refine b2 _ F1 H1 _ _ _ S1 [.io 1,.d (.int (Q1L ns)),.d (.int 0)] [.scr ns,.ow (.list ((Xy ns).map Q0))] ?_ _ ?_
 ·simp only [kIo,X4,Yb,hf ns]
  rfl
 ·intro vs F2 H2 st2 S2 r
  match vs,r with
  | [v0,v1,v2],⟨r0,r1,r2,_⟩ =>
   have e1:=r1.int
   have e2:=r2.int
   subst e1
   subst e2
   obtain ⟨q,g1,g2,xs,g3,g4⟩:=S2.slot 1 _ rfl
   have e0:v0 = .ref q:=by
    have:=Vc g1
    rw [r0] at this
    cases this
    rfl
   subst e0
   have e3:=g4.ints
   subst e3
   refine ⟨by show 3 ≤ sizeLine; decide,fun p hp=>?_⟩
   have hq2:F2 q = none:=S2.hid 1 q (by rw [g2]; simp)
   have hqG:G q = none:=S2.new 1 q (by rw [g2]; simp) rfl
   have hpq:p ≠ q:=fun z=>by rw [z,g3] at hp; cases hp
   have keep:∀ b o,G b = some o → H2 b = some o:=fun b o e=>S2.kp b o e fun i hi=>by cases hi
   have hpG:G p = none:=by
    cases z:G p with
    | none=>rfl
    | some o=>rw [keep p o z] at hp; cases hp
   refine kk p q F2 _ ⟨S2.f0,S2.nw,fun b o e _=>?_⟩ (fun b o e=>?_) hpG hqG (S2.sub.free hp) hq2 hpq upd_same ?_
   ·rw [upd_ne (ne_of_none (keep b o e) hp)]
    exact keep b o e
   ·rw [upd_ne (ne_of_none (S2.sub b o e) hp)]
    exact S2.sub b o e
   ·rw [upd_ne (Ne.symm hpq)]
    exact g3
  | [],r=>exact r.elim
  | [_],r=>exact r.2.elim
  | [_,_],r=>exact r.2.2.elim
  | _ :: _ :: _ :: _ :: _,r=>exact r.2.2.2.elim
end
section
variable {X:Cx} {nm x y:Str} {p pos py p1:Pos}
structure KnD (X:Cx) (x:Str):Prop where
 ex:∃ (CX:CXT) (k:Nat) (a:Addr) (fd:FuncData) (ps:List Str),FnG X.prog X.w X.K X.mg X.base CX k a fd ps (Q96 X.K) ∧ Room k X.A ∧ X.mg x = some (.ref a) ∧ PySem.W.keepIn X.K (.ref a) = true ∧ Binds X.K fd ps [] ∧ Passes CX X E0
 gd:X.A.guards = some []
 gl:Gl X x
 db:(x == ("__debug__":Str)) = false
def Q3r (i j:Nat):List Sl → Option Out:=fun δ=>match δ[j]? with
 | some (.scr ns)=>if i < δ.length then some (.nx (δ.set i (.dk (Xy ns) (Q1L ns) 0))) else none
 | _=>none
theorem Q7t {io:Iom} {fr:Fr} {i j:Nat} (hio:io i = false) (T:Tg X i y) (n:Nm X j x) (kn:KnD X nm)
  (h1:starEach [.Name x p1] X.env = (false,eval (.Name x p1) X.env) :: starEach [] X.env:=by rfl) (h2:(backTo p (starEach [] X.env)).any (·.1) = false:=by rfl)
  {pst:Pos} (hs:swapsWith (.Call (.Name nm pos) [.Name x p1] [] p) (some (.Name y py)) pst.line X.env = pure false:=by rfl) :
  SV X io fr (.Assign [.Name y py] (.Call (.Name nm pos) [.Name x p1] [] p) pst) (Q3r i j):=by
 obtain ⟨CX,k,a,fd,ps,Fn,hR,hm,hk,hb,hx⟩:=kn.ex
 refine ⟨_,ps_set T.nd T.at_ T.loc (Fn.pe kn.gd hR kn.gl hm hk hb hx (pa_cons n.pe pa_nil h1) kn.db h1 h2) hs T.fn,fun Y F H δ σ A hY S o e D kk=>?_⟩
 unfold Q3r at e
 split at e
 ·rename_i ns e0
  split at e
  ·rename_i hi
   cases e
   obtain ⟨e1,b,e2,e3⟩:=S.slot j _ e0
   refine ⟨.ref b,Vc e2,.ref b,F,ns,rfl,S.sub,⟨b,rfl,e3⟩,fun p q F' H' st sFH hp hq hpF hqF hpq hp' hq'=>?_⟩
   have st0:Stp (Wl A []) (Qy ([]:List Ar).length) (ex [] A F H) H F' H':=by
    rw [Q6A]
    exact ⟨st.f,st.nw,fun a o e _=>st.kp a o e (by simp)⟩
   have S0:SR X.K Fx.any F' H' [] (([]:List V).map some) (Wl A []):=by
    refine ⟨rfl,fun i s e=>by simp at e,fun _ _=>rfl,fun _ _ _ h=>by simp [Wl] at h,fun _ _ h=>by simp [Wl] at h,fun _ _ h=>by simp [Wl] at h,sFH,fun _ h=>(by cases h),fun _ h=>(by cases h),fun _ _ e=>(by cases e),fun _ _ _=>rfl,fun _ _ e=>(by cases e),fun _ h=>(by rcases h with h | h <;> cases h),fun i _ _ e=>(by simp at e),fun _ h=>(by cases h)⟩
   obtain ⟨st3,S3,_⟩:=S.behind (as:=[]) (vs:=[]) (R:=[]) (outs:=[]) rfl trivial st0 S0 rfl
   rw [Q0B] at st3 S3
   have S3:SR X.K Y F' H' δ σ A:=S3
   have nA:∀ c,H c = none → ∀ j,c ∉ A j:=fun c hc j m=>S.isSome m hc
   have S4:=S3.put (i:=i) hi (by rw [hY]; exact hio) (s:=.dk (Xy ns) (Q1L ns) 0) (v:=some (.ref p)) (l:=[p,q]) (fun _ _=>by simp) ⟨p,q,rfl,rfl,hp',hq'⟩
    (fun c hc=>by simp at hc; rcases hc with rfl | rfl <;> assumption) (fun c hc=>by simp at hc; rcases hc with rfl | rfl; exact S.fresh0 hp; exact S.fresh0 hq)
    (fun c hc j _=>by simp at hc; rcases hc with rfl | rfl; exact nA _ hp j; exact nA _ hq j)
   exact kk _ F' H' _ st.f S4
  ·cases e
 ·cases e
end
end Z
namespace Z
open PySem PySem.Spec PyProof.Rows L2
theorem hu1 {A:Around} {k:Nat} (hr:Room k A):A.units + 1 < cLine:=by have:=hr.un; omega
theorem Zw {A:Around} {k:Nat} (hr:Room k A):A.units + 65 < cLine:=by have:=hr.un; omega
theorem Q0i {A:Around} {k:Nat} (hr:Room k A):A.units + 66 < cLine:=by have:=hr.un; omega
def CVn (X:Cx) (es:List Expr) (f:List Sl → Option (List Ar × List Sl)) (R M:List Nat) (n:Nat) (B:List Nat):Prop:=CV X es f R M ∧ ∀ δ as δ',f δ = some (as,δ') → as.length = n ∧ ∀ i ∈ ios as,i ∈ B
section
variable {X:Cx} {a:Expr} {es:List Expr} {fa fr} {Ra Rr Ma Mr B:List Nat} {n:Nat} {pos:Pos}
theorem Xg:CVn X [] Yb [] [] 0 []:=⟨Q5R,fun δ as δ' e=>by cases e; exact ⟨rfl,fun _ h=>h⟩⟩
theorem X0 (ha:EV X a fa Ra Ma) (hr:CVn X es fr Rr Mr n B) (dj:∀ i ∈ Ra,i ∉ Mr:=by decide) (hs:starEach (a :: es) X.env = (false,eval a X.env) :: starEach es X.env:=by rfl):CVn X (a :: es) (X4 fa fr) (Ra ++ Rr) (Ma ++ Mr) (n + 1) B:=by
 refine ⟨Q2N ha hr.1 dj hs,fun δ as δ' e=>?_⟩
 unfold X4 at e
 cases e1:fa δ with
 | none=>rw [e1] at e; cases e
 | some p =>
  rw [e1] at e
  simp only [Q1] at e
  cases e2:fr p.2 with
  | none=>rw [e2] at e; cases e
  | some q =>
   rw [e2] at e
   cases e
   obtain ⟨h1,h2⟩:=hr.2 _ q.1 q.2 e2
   exact ⟨by rw [Q8,h1],h2⟩
theorem Kw {i:Nat} {x:Str} (nm:Nm X i x) (hr:CVn X es fr Rr Mr n B) (hs:starEach (.Name x pos :: es) X.env = (false,eval (.Name x pos) X.env) :: starEach es X.env:=by rfl):CVn X (.Name x pos :: es) (kIo i fr) Rr Mr (n + 1) (i :: B):=by
 refine ⟨Q81 nm hr.1 hs,fun δ as δ' e=>?_⟩
 unfold kIo at e
 split at e
 ·cases e2:fr δ with
  | none=>rw [e2] at e; cases e
  | some q =>
   rw [e2] at e
   cases e
   obtain ⟨h1,h2⟩:=hr.2 _ q.1 q.2 e2
   exact ⟨by rw [Q8,h1],fun j hj=>by
    rcases Q7.mp hj with z | z
    ·subst z; exact Qd
    ·exact Q9 _ (h2 j z)⟩
 ·cases e
theorem Q0c:∀ δ ds δ',Jt δ = some (ds,δ') → ds.length = 0:=fun _ _ _ e=>by cases e; rfl
theorem Kb {n:Nat} (h:∀ δ ds δ',(fr:List Sl → Option (List D × List Sl)) δ = some (ds,δ') → ds.length = n):∀ δ ds δ',Ji fa fr δ = some (ds,δ') → ds.length = n + 1:=fun δ ds δ' e=>by
 obtain ⟨d,δ1,r,_,e2,rfl⟩:=Q1P e
 rw [Q8,h _ _ _ e2]
end
def tN:Tt → Nat
 | .nm _=>0
 | .nil=>0
 | .cons _ b=>tN b + 1
def tOk:Tt → Bool
 | .nm _=>true
 | .nil=>true
 | .cons _ (.nm _)=>false
 | .cons _ b=>tOk b
theorem Q6I:∀ (T:Tt) (ds:List D) (δ δ':List Sl),(∀ i,T ≠ .nm i) → tOk T = true → Xi T ds δ = some δ' → ds.length = tN T
 | .nm i,_,_,_,h,_,_=>absurd rfl (h i)
 | .nil,[],_,_,_,_,_=>rfl
 | .nil,_ :: _,_,_,_,_,e=>by unfold Xi at e; cases e
 | .cons a b,[],_,_,_,_,e=>by unfold Xi at e; cases e
 | .cons a b,d :: ds,δ,δ',_,ok,e=>by
  unfold Xi at e
  cases e1:Xl a d δ with
  | none=>rw [e1] at e; cases e
  | some δ1 =>
   rw [e1] at e
   have hb:∀ i,b ≠ .nm i:=fun i z=>by subst z; cases ok
   have ok2:tOk b = true:=by
    cases b with
    | nm i=>exact absurd rfl (hb i)
    | nil=>rfl
    | cons _ _=>exact ok
   exact congrArg (· + 1) (Q6I b ds δ1 δ' hb ok2 e)
theorem Q9H {X:Cx} {es:List Expr} {k:Nat} {pos:Pos} {T:Tt} (hc:X.calm = true) (h:GsV X es T) (hT:∀ i,T ≠ .nm i:=by intro _ z; cases z) (ok:tOk T = true:=by rfl) (hn:(assignEach es X.env).length = tN T:=by rfl) (hst:(assignEach es X.env).findIdx? (·.1) = none:=by rfl):GV X (.Tuple es k pos) T :=
 Q8j hc h hT hn (fun ds δ δ' e=>Q6I T ds δ δ' hT ok e) hst
structure GK (P:Program) (w:World) (K:PySem.W.Frag) (mg:Str → Option Value) (base:Heap) (x:Str) (k n:Nat) (fr:Fr) (φ:List Sl → Option (D × List Sl)):Prop where
 ex:∃ (a:Addr) (fd:FuncData) (ps:List Str),FnG P w K mg base CX0 k a fd ps (spF K ps.length fr φ) ∧ ps.length = n ∧ mg x = some (.ref a) ∧ PySem.W.keepIn K (.ref a) = true ∧ Binds K fd ps []
structure GKD (P:Program) (w:World) (K:PySem.W.Frag) (mg:Str → Option Value) (base:Heap) (x:Str) (k:Nat):Prop where
 ex:∃ (a:Addr) (fd:FuncData) (ps:List Str),FnG P w K mg base CX0 k a fd ps (Q96 K) ∧ mg x = some (.ref a) ∧ PySem.W.keepIn K (.ref a) = true ∧ Binds K fd ps []
section
variable {X:Cx} {x:Str} {k j n:Nat} {fr:Fr} {φ:List Sl → Option (D × List Sl)}
theorem GK.kn (g:GK X.prog X.w X.K X.mg X.base x k n fr φ) (hR:Room j X.A) (hG:X.A.guards = some []) (gl:Gl X x:=by rfl) (hk:k ≤ j:=by decide) (db:(x == ("__debug__":Str)) = false:=by decide):Kn X x n fr φ:=by
 obtain ⟨a,fd,ps,h1,h2,h3,h4,h5⟩:=g.ex
 exact ⟨⟨CX0,k,a,fd,ps,h1,h2,hR.mono hk,h3,h4,h5,pass0⟩,hG,gl,db⟩
theorem GKD.kn (g:GKD X.prog X.w X.K X.mg X.base x k) (hR:Room j X.A) (hG:X.A.guards = some []) (gl:Gl X x:=by rfl) (hk:k ≤ j:=by decide) (db:(x == ("__debug__":Str)) = false:=by decide):KnD X x:=by
 obtain ⟨a,fd,ps,h1,h3,h4,h5⟩:=g.ex
 exact ⟨⟨CX0,k,a,fd,ps,h1,hR.mono hk,h3,h4,h5,pass0⟩,hG,gl,db⟩
end
def GC (K:PySem.W.Frag) (mg:Str → Option Value) (x:Str) (d:D):Prop:=∃ u v,mg x = some u ∧ kRp K 40 u = some (v,d)
def GCt (K:PySem.W.Frag) (mg:Str → Option Value) (x:Str) (ds:List D):Prop:=∃ u v,mg x = some u ∧ kRp K 40 u = some (v,.tuple ds) ∧ kDn K u = true
theorem GCt.c {K:PySem.W.Frag} {mg:Str → Option Value} {x:Str} {ds:List D} (h:GCt K mg x ds):GC K mg x (.tuple ds):=by
 obtain ⟨u,v,h1,h2,_⟩:=h
 exact ⟨u,v,h1,h2⟩
theorem Q5P {H:Hp} (hO:L2.Only H) {b:Addr} {o:HO} (e:H b = some o):∃ ob xs,o = .frz ob (.lst xs):=by
 rcases hO b with z | ⟨ob,xs,z⟩
 ·rw [e] at z; cases z
 ·rw [e] at z; cases z; exact ⟨ob,xs,rfl⟩
theorem Q4h {K:PySem.W.Frag} {φ:List Sl → Option (D × List Sl)} {H:Hp} {a:Addr} {ns:List Int} (hS:SqL K H a (ns.map V.int)) {outs:List Sl} (hφ:φ [.scr ns] = some (.bool true,outs)):spF K 1 .n φ [.ref a] H (fun v _=>v = .bl true) (fun _ _ _=>False):=by
 refine ⟨H,[.scr ns],fun _=>[],rfl,?_,.bool true,outs,hφ,fun v F' H' _ _ r=>?_⟩
 ·refine ⟨rfl,fun i s e=>?_,fun _ _=>rfl,fun _ _ _ h=>by simp at h,fun _ _ h=>by simp at h,fun _ _ h=>by simp at h,Same.refl _,fun _ h=>(by cases h),fun _ h=>(by cases h),fun _ _ e=>(by cases e),fun _ _ _=>rfl,fun _ _ e=>(by cases e),fun _ h=>(by rcases h with h | h <;> cases h),fun i _ _ e=>(by match i,e with | 0,e=>cases e | _ + 1,e=>simp at e),fun _ h=>(by cases h)⟩
  match i,e with
  | 0,e=>cases e; exact ⟨rfl,a,rfl,hS⟩
  | _ + 1,e=>simp at e
 ·exact Q4q r
end Z
namespace Z
open PySem PySem.Spec PyProof.Rows L2
section
variable {X:Cx} {x:Str} {i:Nat} {pos:Pos}
theorem nmk (i:Nat) (h:X.N[i]? = some x:=by rfl) (v:Vis X.env.scope x:=by first | exact .inl rfl | exact .inr (.inl rfl) | exact .inr (.inr rfl)) (db:(x == ("__debug__":Str)) = false:=by decide) (cd:(x == ("__classdict__":Str)) = false:=by decide):Nm X i x:=⟨h,v,db,cd⟩
theorem tgk (i:Nat) (nd:X.N.Nodup) (h:X.N[i]? = some x:=by rfl) (l:Loc X.env.scope x:=by first | exact .inl rfl | exact .inr rfl) (f:X.fn x = true ∨ X.env.scope.names.lookup x = some .local:=by first | exact .inr rfl | exact .inl rfl):Tg X i x:=⟨nd,h,l,f⟩
theorem bnk {v:Value} (m:X.mg x = none) (gl:Gl X x:=by rfl) (bt:bootBuiltins x = some v:=by decide +kernel) (nn:x ≠ "__name__":=by decide) (db:(x == ("__debug__":Str)) = false:=by decide):Bn X x v:=⟨gl,m,bt,nn,db⟩
theorem Jo (i:Nat) (h:X.N[i]? = some x:=by rfl) (v:Vis X.env.scope x:=by first | exact .inl rfl | exact .inr (.inl rfl) | exact .inr (.inr rfl)) (db:(x == ("__debug__":Str)) = false:=by decide) (cd:(x == ("__classdict__":Str)) = false:=by decide):EV X (.Name x pos) (Jn i) [] []:=Q62 h v db cd
def fRd (i:Nat):List Sl → Option (D × List Sl):=fun δ=>match δ[i]? with
 | some (.fz d)=>some (d,δ)
 | some (.ow (.list ds))=>some (.list ds,δ)
 | some (.lk ds)=>some (.dict ds,δ)
 | _=>none
theorem Q3l (i:Nat) (h:X.N[i]? = some x:=by rfl) (v:Vis X.env.scope x:=by first | exact .inl rfl | exact .inr (.inl rfl) | exact .inr (.inr rfl)) (db:(x == ("__debug__":Str)) = false:=by decide) (cd:(x == ("__classdict__":Str)) = false:=by decide):EV X (.Name x pos) (fRd i) [i] []:=by
 obtain ⟨t,p,q⟩:=Q62 (pos:=pos) h v db cd
 obtain ⟨t2,p2,q2⟩:=Q9b (pos:=pos) h v db cd
 refine ⟨_,pe_var h v db cd,fun Y F H δ σ A S d δ' e Q k=>?_⟩
 unfold fRd at e
 split at e
 ·rename_i d0 hd
  cases e
  obtain ⟨_,u,e2,r⟩:=S.slot i _ hd
  exact ⟨u,Vc e2,k u F H Stp.refl S (.inl r)⟩
 ·rename_i d0 hd
  cases e
  obtain ⟨u,e2,e3,o⟩:=S.slot i _ hd
  exact ⟨_,Vc e2,k _ F H Stp.refl S (.inr ⟨i,by simp,u,rfl,e3,o⟩)⟩
 ·rename_i d0 hd
  cases e
  obtain ⟨u,e2,e3,o⟩:=S.slot i _ hd
  exact ⟨_,Vc e2,k _ F H Stp.refl S (.inr ⟨i,by simp,u,rfl,e3,o⟩)⟩
 ·cases e
end
section
variable {X:Cx} {x:Str} {p pos:Pos} {e:Expr} {es:List Expr} {R M:List Nat} {f:List Sl → Option (List Ar × List Sl)} {φ:List Sl → Option (D × List Sl)} {n:Nat} {B:List Nat}
theorem Y0 (kn:Kn X x n .n φ) (h:CVn X (e :: es) f R M n B) (h1:starEach (e :: es) X.env = (false,eval e X.env) :: starEach es X.env:=by rfl) (h2:(backTo pos (starEach es X.env)).any (·.1) = false:=by rfl):EV X (.Call (.Name x p) (e :: es) [] pos) (Xc R true φ f) [] (M ++ B):=Q7S kn h.2 h.1 h1 h2
theorem Q0h {A:Around} {k:Nat} (hr:Room k A):A.units + 67 < cLine:=by have:=hr.un; omega
end
def Q9q (N:List Str) (sc scope:Scope) (own:List (Str × Nat)):Bool :=
 decide (scope.kind = .function) && scope.names.all (fun y=>decide (scope.names.lookup y.1 = some y.2)) && own.all (fun p=>decide (N[p.2]? = some p.1)) && scope.names.all (fun y=>decide (y.2 ≠ .free) || decide (sc.names.lookup y.1 = some .cell) || decide (sc.names.lookup y.1 = some .free))
  && scope.names.all (fun y=>decide (y.2 ≠ .local ∧ y.2 ≠ .cell) || (own.map (·.1)).contains y.1 || !(N.contains y.1))
theorem Q0g {N:List Str} {sc scope:Scope} {own:List (Str × Nat)} (h:Q9q N sc scope own = true):BlkOk N sc scope own:=by
 unfold Q9q at h
 simp only [Q3,decide_eq_true_eq,Qi,Bool.or_eq_true,List.contains_iff_mem,Bool.not_eq_true'] at h
 obtain ⟨⟨⟨⟨h1,h2⟩,h3⟩,h4⟩,h5⟩:=h
 refine ⟨h1,h2,h3,fun y hy e=>?_,fun y hy e=>?_⟩
 ·rcases h4 y hy with (z | z) | z
  ·exact absurd e z
  ·exact .inl z
  ·exact .inr z
 ·rcases h5 y hy with (z | z) | z
  ·rcases e with e | e
   ·exact absurd e z.1
   ·exact absurd e z.2
  ·exact .inl z
  ·refine .inr fun m=>?_
   rw [List.contains_iff_mem.mpr m] at z
   cases z
theorem Q7N (ns:List Int):f2 X2 (f2 Yq (fA (g1 Q4X) (Ji (fRd 1) Jt)) (Jl (.int 2147483629))) (f2 Vs (Jl (.int 48271)) (fA (g1 Vb) (Ji (fRd 1) Jt))) [.scr ns,.ow (.list ((Xy ns).map Q0))] = some (.int (Q1L ns),[.scr ns,.ow (.list ((Xy ns).map Q0))]):=by
 have e1:Ji (fRd 1) Jt [.scr ns,.ow (.list ((Xy ns).map Q0))] = some ([.list ((Xy ns).map Q0)],[.scr ns,.ow (.list ((Xy ns).map Q0))]):=rfl
 have e2:g1 Q4X [.list ((Xy ns).map Q0)] = some (.int (Xy ns).sum):=by
  simp only [g1,Q4X,Q1W,Q6]
 have e3:g1 Vb [.list ((Xy ns).map Q0)] = some (.int ((Xy ns).length:Nat)):=by
  simp only [g1,Vb,Qc]
 have e4:Yq (.int (Xy ns).sum) (.int 2147483629) = some (.int ((Xy ns).sum % 2147483629)):=by
  simp [Yq]
 simp only [f2,fA,Jl,e1,e2,e3,e4,Q1,Q6]
 rfl
end Z
namespace Z
open PySem PySem.Spec PyProof.Rows L2
theorem Q1K:∀ cs:List Int,PyData.plainAll (cs.map Q0) = true
 | []=>rfl
 | c :: r=>by
  show (PyData.plain (.int c) && PyData.plainAll (r.map Q0)) = true
  rw [Q1K r]
  rfl
theorem Q3o:∀ cs:List Int,Qr (cs.map Q0) ≤ 1
 | []=>J3 _
 | c :: r=>by
  have:=Q3o r
  simp only [Qp,Qr,PyData.depth]
  omega
theorem Q3W (cs:List Int):shp (.list (cs.map Q0)) = true:=by
 have h1:=Q1K cs
 have h2:=Q3o cs
 unfold shp
 rw [Q3,decide_eq_true_eq]
 refine ⟨h1,?_⟩
 simp only [PyData.depth]
 omega
theorem Q0L (cs:List Int):eqD (.list (cs.map Q0)) (.list []) = some cs.isEmpty:=by
 unfold eqD
 rw [Q3W,show shp (.list []) = true from rfl]
 cases cs <;> rfl
def Q1Y:List Sl → Option Out:=Jp (sIf (fun δ=>toB (f2 (bD geD) (Jn 2) (f2 Q28 (Jl (.int 10)) (Jl (.int 18))) δ)) (Jp (Q5p (Q0F 0 (f2 Zk (Jn 2) (Jn 1)))) (Jp (Xu (f2 Yq (Jn 2) (Jn 1))) (Xf))) (Xf)) (Jp (Yr 3 (f2 Yq (f2 Vs (f2 X2 (f2 X2 (f2 Yq (Jn 2) (Jl (.int 2147483629))) (f2 Vs (Jl (.int 104729)) (Q1U 0))) (Jl (.int 1))) (Jl (.int 48271))) (Jl (.int 2147483647)))) (Jp (Yr 3 (f2 Yq (f2 X2 (f2 X2 (f2 Vs (Jn 3) (Jn 3)) (f2 Vs (Jl (.int 69621)) (Q1U 0))) (Jl (.int 7))) (Jl (.int 2147483587)))) (Jp (Xu (f2 Yq (f2 Zk (f2 Yq (f2 Vs (Jn 3) (f2 X2 (f2 Zk (Jn 3) (Jl (.int 3))) (Jl (.int 39373)))) (Jl (.int 2305843009213693951))) (Jl (.int 128))) (Jn 1))) (Xf))))
def Q4Q:List Sl → Option Out:=Jp (Q5k 0 (f2 X2 (Q1U 0) (Jl (.int 1)))) (Jp (Yr 2 (Q4W (Q5i 0) (Q6j 0) (Q1F 0))) Q1Y)
theorem Yg (a b:Int):X2 (.int a) (.int b) = some (.int (a + b)):=rfl
theorem Q0e (a b:Int) (h:Q1v a = true):Vs (.int a) (.int b) = some (.int (a * b)):=by simp [Vs,Q4j,h]
theorem Q8f (a b:Int) (h:Q1v b = true):Vs (.int a) (.int b) = some (.int (a * b)):=by simp [Vs,Q4j,h]
theorem Q2j (a k:Int) (h:0 < k) (h2:k ≤ 2 ^ 62):Q1v (a % k) = true:=by
 have h3:=Int.emod_nonneg a (Int.ne_of_gt h)
 have h4:=J6 a h
 unfold Q1v
 simp
 omega
theorem Z2 (a b:Int):Q3J (.int a) (.int b) = some (.int (a - b)):=rfl
theorem Xq (a b:Int) (h:0 < b):Yq (.int a) (.int b) = some (.int (a % b)):=if_pos h
theorem Q0R (a b:Int) (h:0 < b) (h2:b < 2 ^ 30):Zk (.int a) (.int b) = some (.int (a / b)):=by
 show (if (decide (0 < b) && decide (b < 1073741824)) = true then some (Q0 (a / b)) else none) = _
 rw [if_pos (by simp [h]; omega)]
theorem Q55 (cs:List Int) (m n c M:Int) (hM:0 < M) (hM2:M < 2 ^ 30) (hc:cs.length < 1000) :
  ∃ (r:Int) (cs':List Int) (z:Sl),0 ≤ r ∧ r < M ∧ cs'.length ≤ cs.length + 1 ∧ Q1Y [.dk cs m n,.fz (.int M),.fz (.int c),.no] = some (.rt (.int r) [.dk cs' m n,.fz (.int M),.fz (.int c),z]):=by
 have hs:cs.length < sizeLine:=Nat.lt_of_lt_of_le hc (by decide)
 by_cases h:(10:Int) ^ 18 ≤ c
 ·refine ⟨c % M,cs ++ [c / M],.no,Int.emod_nonneg _ (by omega),J6 _ hM,by simp,?_⟩
  have e1:geD (.int c) (.int (10 ^ 18)) = some true:=by
   simp [geD]
   omega
  have e2:Q28 (.int 10) (.int 18) = some (.int (10 ^ 18)):=rfl
  simp only [Q1Y,Jp,sIf,Q5p,Xu,toB,f2,Jn,Jl,Q0F,Wm,bD,e1,e2,Q0R _ _ hM hM2,Xq _ _ hM,hs,List.getElem?_cons_zero,List.getElem?_cons_succ,Q1,Q6,if_true,List.set_cons_zero]
 ·refine ⟨(((((c % 2147483629 + 104729 * n + 1) * 48271) % 2147483647) * (((c % 2147483629 + 104729 * n + 1) * 48271) % 2147483647) + 69621 * n + 7) % 2147483587 * ((((((c % 2147483629 + 104729 * n + 1) * 48271) % 2147483647) * (((c % 2147483629 + 104729 * n + 1) * 48271) % 2147483647) + 69621 * n + 7) % 2147483587) / 3 + 39373) % 2305843009213693951 / 128) % M,cs,.fz (.int (((((c % 2147483629 + 104729 * n + 1) * 48271) % 2147483647) * (((c % 2147483629 + 104729 * n + 1) * 48271) % 2147483647) + 69621 * n + 7) % 2147483587)),Int.emod_nonneg _ (Int.ne_of_gt hM),J6 _ hM,by omega,?_⟩
  have e1:geD (.int c) (.int (10 ^ 18)) = some false:=by simp [geD]; omega
  have e2:Q28 (.int 10) (.int 18) = some (.int (10 ^ 18)):=rfl
  have m1:∀ a:Int,Yq (.int a) (.int 2147483629) = some (.int (a % 2147483629)):=fun a=>Xq a _ (by decide)
  have m2:∀ a:Int,Yq (.int a) (.int 2147483647) = some (.int (a % 2147483647)):=fun a=>Xq a _ (by decide)
  have m3:∀ a:Int,Yq (.int a) (.int 2147483587) = some (.int (a % 2147483587)):=fun a=>Xq a _ (by decide)
  have m4:∀ a:Int,Yq (.int a) (.int 2305843009213693951) = some (.int (a % 2305843009213693951)):=fun a=>Xq a _ (by decide)
  have d1:∀ a:Int,Zk (.int a) (.int 3) = some (.int (a / 3)):=fun a=>Q0R a _ (by decide) (by decide)
  have d2:∀ a:Int,Zk (.int a) (.int 128) = some (.int (a / 128)):=fun a=>Q0R a _ (by decide) (by decide)
  have l1:∀ a:Int,Vs (.int 104729) (.int a) = some (.int (104729 * a)):=fun a=>Q0e _ _ rfl
  have l2:∀ a:Int,Vs (.int 69621) (.int a) = some (.int (69621 * a)):=fun a=>Q0e _ _ rfl
  have l3:∀ a:Int,Vs (.int a) (.int 48271) = some (.int (a * 48271)):=fun a=>Q8f _ _ rfl
  have l4:∀ a b:Int,Vs (.int (a % 2147483647)) (.int b) = some (.int ((a % 2147483647) * b)):=fun a b=>Q0e _ _ (Q2j _ _ (by decide) (by decide))
  have l5:∀ a b:Int,Vs (.int (a % 2147483587)) (.int b) = some (.int ((a % 2147483587) * b)):=fun a b=>Q0e _ _ (Q2j _ _ (by decide) (by decide))
  have mM:∀ a:Int,Yq (.int a) (.int M) = some (.int (a % M)):=fun a=>Xq a _ hM
  simp only [Q1Y,Jp,sIf,Yr,Q5p,Xu,Xf,toB,f2,Jn,Jl,Q1U,Wm,bD,e1,e2,m1,m2,m3,m4,d1,d2,mM,Yg,l1,l2,l3,l4,l5,hs,List.getElem?_cons_zero,List.getElem?_cons_succ,Q1,Q6,Q8,Qq,List.set_cons_zero,List.set_cons_succ,Nat.reduceAdd,Nat.reduceLT,if_true]
theorem Q8M {sg:List Bool} {m:Nat} {fr:Fr} {g:List Sl → Option Out} {as δ o:List Sl} {d:D} (h1:Q09 sg as = true) (h2:g (as ++ Qs (m - sg.length) .no) = some (.rt d δ)) (h3:Y7 as δ = some o):fnF sg m fr g as = some (d,o):=by
 unfold fnF
 rw [h1,h2]
 show (Y7 as δ).map (fun o=>(d,o)) = _
 rw [h3]
 rfl
def Q21:List Sl → Option (D × List Sl):=fnF [true,false] 4 .n Q4Q
theorem Q7h (cs:List Int) (m n M:Int) (hM:0 < M) (hM2:M < 2 ^ 30) (hc:cs.length ≤ 63):∃ (r:Int) (cs':List Int) (n':Int),0 ≤ r ∧ r < M ∧ cs'.length ≤ 63 ∧ Q21 [.dk cs m n,.fz (.int M)] = some (.int r,[.dk cs' m n',.fz (.int M)]):=by
 have fin:∀ (cs0:List Int) (c:Int),cs0.length ≤ 62 → Q4Q [.dk cs m n,.fz (.int M),.no,.no] = Q1Y [.dk cs0 m (n + 1),.fz (.int M),.fz (.int c),.no] →
   ∃ (r:Int) (cs':List Int) (n':Int),0 ≤ r ∧ r < M ∧ cs'.length ≤ 63 ∧ Q21 [.dk cs m n,.fz (.int M)] = some (.int r,[.dk cs' m n',.fz (.int M)]):=fun cs0 c hl e=>by
  obtain ⟨r,cs',z,h1,h2,h3,h4⟩:=Q55 cs0 m (n + 1) c M hM hM2 (by omega)
  refine ⟨r,cs',n + 1,h1,h2,by omega,?_⟩
  exact Q8M rfl (e.trans h4) rfl
 have en:∀ a b:Int,X2 (.int a) (.int b) = some (.int (a + b)):=fun _ _=>rfl
 cases cs with
 | nil =>
  refine fin [] m (by simp) ?_
  simp only [Q4Q,Jp,Q5k,Yr,Q4W,Q5i,Q6j,Q1U,f2,Jl,Wm,en,Q0L,List.isEmpty_nil,List.getElem?_cons_zero,Q1,Q6,Q8,Qq,List.set_cons_zero,List.set_cons_succ,Nat.reduceAdd,Nat.reduceLT,if_true]
 | cons x r =>
  have he:(x :: r).isEmpty = false:=rfl
  generalize (x :: r) = cs at he hc fin ⊢
  have h0:0 < cs.length:=by
   cases cs with
   | nil=>cases he
   | cons _ _=>simp
  obtain ⟨c,hl⟩:∃ c,cs[cs.length - 1]? = some c:=⟨_,Qh (by omega)⟩
  refine fin cs.dropLast c (by rw [List.length_dropLast]; omega) ?_
  simp only [Q4Q,Jp,Q5k,Yr,Q4W,Q5i,Q1F,Q1U,f2,Jl,Wm,en,Q0L,hl,he,List.getElem?_cons_zero,Q1,Q6,List.set_cons_zero,List.set_cons_succ,Q8,Qq,Nat.reduceAdd,Nat.reduceLT,if_true]
theorem Q63:1000000 ≤ sizeLine:=by decide
theorem Q3Y {i:Int} (h0:-1000000 ≤ i) (h1:i ≤ 1000000):Vd i = true:=by
 unfold Vd
 simp
 omega
end Z
namespace Z
open PySem PySem.Spec PyProof.Rows L2
section
variable {X:Cx} {a b:Expr} {fa fb:List Sl → Option (D × List Sl)} {Ra Rb Ma Mb:List Nat} {p p2 pos pos2:Pos}
def Q6q:List Sl → Option (D × List Sl):=fun δ=>some (.dict [],δ)
theorem Q30:NV X (.Dict [] [] pos) Q6q []:=by
 refine ⟨_,pe_dnewK,fun Y F H δ σ A S z δ' e Q k=>?_⟩
 cases e
 exact fun c hc=>k c F _ (Stp.laidO hc) (S.laidO hc) hc (S.sub.free hc) ⟨_,upd_same,.nil⟩
end
end Z
namespace Z
open PySem PySem.Spec PyProof.Rows L2
def PrR (K:PySem.W.Frag) (F:Hp):List (V × V) → List (D × D) → Prop
 | [],[]=>True
 | (x,y) :: r,(d,e) :: s=>Rp K F x d ∧ Rp K F y e ∧ PrR K F r s
 | _,_=>False
def PV (X:Cx) (pos:Pos) (ks:List (Option Expr)) (vs:List Expr) (f:List Sl → Option (List (D × D) × List Sl)) (M:List Nat):Prop :=
 ∃ trs,PPs X pos ks vs trs ∧ ∀ (Y:Fx) (F H:Hp) (δ:List Sl) (σ:L2.St) (A:Nat → List Addr),SR X.K Y F H δ σ A → ∀ (ds:List (D × D)) (δ':List Sl),f δ = some (ds,δ') → ∀ Q:List (V × V) → Hp → Prop,
  (∀ ps F' H',Stp A M F H F' H' → SR X.K Y F' H' δ' σ A → PrR X.K F' ps ds → Q ps H') → tPairs trs σ H Q
def Q7L:List Sl → Option (List (D × D) × List Sl):=fun δ=>some ([],δ)
def Ze (fk fv:List Sl → Option (D × List Sl)) (fr:List Sl → Option (List (D × D) × List Sl)):List Sl → Option (List (D × D) × List Sl):=fun δ=>(fk δ).bind fun p=>(fv p.2).bind fun q=>(fr q.2).map fun r=>((p.1,q.1) :: r.1,r.2)
section
variable {X:Cx} {pos:Pos} {ks:List (Option Expr)} {vs:List Expr} {k v:Expr} {fk fv:List Sl → Option (D × List Sl)} {fr:List Sl → Option (List (D × D) × List Sl)} {Mk Mv Mr:List Nat}
theorem Q5W:PV X pos [] [] Q7L []:=by
 refine ⟨_,pps_nil,fun Y F H δ σ A S ds δ' e Q k=>?_⟩
 cases e
 exact k [] F H Stp.refl S trivial
theorem Kh (hk:EV X k fk [] Mk) (hv:EV X v fv [] Mv) (hr:PV X pos ks vs fr Mr):PV X pos (some k :: ks) (v :: vs) (Ze fk fv fr) (Mk ++ Mv ++ Mr):=by
 obtain ⟨tk,pk,qk⟩:=hk
 obtain ⟨tv,pv,qv⟩:=hv
 obtain ⟨tr,pr,qr⟩:=hr
 refine ⟨_,pps_cons pk pv pr,fun Y F H δ σ A S ds δ' e Q kk=>?_⟩
 unfold Ze at e
 cases e1:fk δ with
 | none=>rw [e1] at e; cases e
 | some w =>
  obtain ⟨d,δ1⟩:=w
  rw [e1] at e
  simp only [Q1] at e
  cases e2:fv δ1 with
  | none=>rw [e2] at e; cases e
  | some w =>
   obtain ⟨d2,δ2⟩:=w
   rw [e2] at e
   simp only [Q1] at e
   cases e3:fr δ2 with
   | none=>rw [e3] at e; cases e
   | some w =>
    obtain ⟨r,δ3⟩:=w
    rw [e3] at e
    cases e
    refine qk Y F H δ σ A S d δ1 e1 _ fun x F1 H1 st1 S1 r1=>?_
    refine qv Y F1 H1 δ1 σ A S1 d2 δ2 e2 _ fun y F2 H2 st2 S2 r2=>?_
    refine qr Y F2 H2 δ2 σ A S2 r δ3 e3 _ fun ps F3 H3 st3 S3 r3=>?_
    exact kk _ F3 H3 ((st1.trans S1 st2).trans S2 st3) S3 ⟨r1.nil.mono (st2.f.trans st3.f),r2.nil.mono st3.f,r3⟩
def Q04:List (D × D) → Option (List Key)
 | []=>some []
 | p :: r=>(keyOf p.1).bind fun k=>(Q04 r).bind fun ks=>if ks.any (fun j=>decide (j = k)) then none else some (k :: ks)
theorem PrR.keys {K:PySem.W.Frag} {F:Hp}:∀ {ps:List (V × V)} {ds:List (D × D)} {ks:List Key},PrR K F ps ds → Q04 ds = some ks → ∃ kvs:List (Key × V),ps = kvs.map (fun kv=>(kV kv.1,kv.2)) ∧ kvs.map (·.1) = ks ∧ ks.Nodup ∧ RpK K F kvs ds
 | [],[],ks,_,h=>by cases h; exact ⟨[],rfl,rfl,List.nodup_nil,.nil⟩
 | (x,y) :: r,(d,e) :: s,ks,⟨h1,h2,h3⟩,h=>by
  unfold Q04 at h
  cases e1:keyOf d with
  | none=>rw [e1] at h; cases h
  | some k =>
   rw [e1] at h
   simp only [Q1] at h
   cases e2:Q04 s with
   | none=>rw [e2] at h; cases h
   | some ks' =>
    rw [e2] at h
    simp only [Q1] at h
    split at h
    ·cases h
    ·rename_i nk
     cases h
     obtain ⟨kvs,q1,q2,q3,q4⟩:=PrR.keys h3 e2
     have ex:=Q2F e1 h1
     have ed:d = Q2d k:=by
      cases d with
      | int i=>cases e1; rfl
      | str z=>cases e1; rfl
      | _=>cases e1
     subst ed
     refine ⟨(k,y) :: kvs,by rw [Qp,q1,ex],by rw [Qp,q2],List.nodup_cons.mpr ⟨fun z=>nk (List.any_eq_true.mpr ⟨_,z,decide_eq_true rfl⟩),q3⟩,.cons h2 q4⟩
 | [],_ :: _,_,h,_=>h.elim
 | _ :: _,[],_,h,_=>h.elim
theorem Q2t:∀ (more kvs:List (Key × V)),((kvs ++ more).map (·.1)).Nodup → mergeK kvs more = kvs ++ more
 | [],kvs,_=>by rw [Qx]; rfl
 | p :: r,kvs,h=>by
  have hp:valV kvs p.1 = none:=by
   cases c:valV kvs p.1 with
   | none=>rfl
   | some v =>
    have m:=valV_in c
    rw [List.map_append,Qp,List.nodup_append] at h
    exact absurd rfl (h.2.2 _ m _ Qd)
  show mergeK (putK kvs p.1 p.2) r = _
  rw [putK_new _ hp,Q2t r _ (by simpa using h),List.append_assoc]
  rfl
def Q2v (f:List Sl → Option (List (D × D) × List Sl)):List Sl → Option (D × List Sl):=fun δ=>(f δ).bind fun p=>(Q04 p.1).bind fun ks=>if ks.length ≤ 15 then some (.dict p.1,p.2) else none
theorem Q4A {f:List Sl → Option (List (D × D) × List Sl)} {M:List Nat} (h:PV X pos ks vs f M) (hall:ks.all (·.isSome) = true:=by rfl) (hl:ks.length = vs.length:=by rfl) (h0:ks ≠ []:=by intro z; cases z) (h15:ks.length ≤ 15:=by decide):NV X (.Dict ks vs pos) (Q2v f) M:=by
 obtain ⟨trs,pp,q⟩:=h
 refine ⟨_,pe_disp pp hall hl h0 h15,fun Y F H δ σ A S z δ' e Q k=>?_⟩
 unfold Q2v at e
 cases e1:f δ with
 | none=>rw [e1] at e; cases e
 | some w =>
  obtain ⟨ds,δ1⟩:=w
  rw [e1] at e
  simp only [Q1] at e
  cases e2:Q04 ds with
  | none=>rw [e2] at e; cases e
  | some kl =>
   rw [e2] at e
   simp only [Q1] at e
   split at e
   ·rename_i hz
    cases e
    intro p hp
    have S0:=S.laidO (o:=.dK []) hp
    refine q Y F _ δ σ A S0 ds _ e1 _ fun ps F2 H2 st S2 r=>?_
    have nA:∀ j,p ∉ A j:=fun j m=>S.isSome m hp
    have h2:H2 p = some (.dK []):=st.kp p _ upd_same fun i _ m=>nA i m
    have hF:F p = none:=S.sub.free hp
    have hF2:F2 p = none:=by
     cases c:F2 p with
     | none=>rfl
     | some o =>
      have:=st.nw p hF (by rw [c]; simp)
      rw [upd_same] at this
      cases this
    obtain ⟨kvs,q1,q2,q3,q4⟩:=r.keys e2
    have hk:kvs.length ≤ 15:=by
     have:=congrArg List.length q2
     rw [Qc] at this
     omega
    have em:mergeK [] kvs = kvs:=Q2t kvs [] (by rw [List.nil_append,q2]; exact q3)
    refine ⟨h2,kvs,q1,hk,?_⟩
    rw [em]
    refine k p F2 _ ⟨st.f,fun a e n=>?_,fun a o e n=>?_⟩ (S2.upd_free hF2 nA (S.fresh0 hp)) hp hF2 ⟨kvs,upd_same,q4⟩
    ·have:=st.nw a e n
     by_cases c:a = p
     ·subst c; exact hp
     ·rw [upd_ne c] at this; exact this
    ·have c:a ≠ p:=fun z=>by subst z; rw [hp] at e; cases e
     rw [upd_ne c]
     exact st.kp a o (by rw [upd_ne c]; exact e) n
   ·cases e
end
end Z
namespace Z
open PySem PySem.Spec PyProof.Rows L2
theorem Rps.reverse {K:PySem.W.Frag} {G:Hp}:∀ {xs:List V} {ds:List D},Rps K G xs ds → Rps K G xs.reverse ds.reverse
 | _,_,.nil=>.nil
 | x :: xs,d :: ds,.cons h r=>by
  rw [List.reverse_cons,List.reverse_cons]
  exact r.reverse.append (.cons h .nil)
end Z
namespace Z
open PySem PySem.Spec PyProof.Rows L2


end Z
namespace Z
open PySem PySem.Spec PyProof.Rows L2
end Z
namespace Z
open PySem PySem.Spec PyProof.Rows L2
def loN:Option Int → Option Nat
 | none=>some 0
 | some (.ofNat n)=>some n
 | _=>none


end Z
namespace Z
open PySem PySem.Spec PyProof.Rows L2
abbrev Q91 (h:Heap) (z TI TO:Addr) (T:Addr) (f:Bool):Prop :=
 h.get? z = some { cls:=.type "zip",dict:=none,data:=.fields #[rawInt T,.bool f,.bool false,.ref TI,.ref TO],slots:=#[] }

end Z
namespace Z
open PySem PySem.Spec PyProof.Rows L2 RT
structure ZS (N z TI TO i1 i2:Addr) (St1 St2:Nat → Heap → Prop) (i:Nat) (h:Heap):Prop where
 ti:IsTupOf2 h TI (.ref i1) (.ref i2)
 s1:St1 i h
 s2:St2 i h
 zz:(IsZip h z TI TO .none ∧ ∃ a1 a2,IsTupOf2 h TO a1 a2) ∨ ∃ T f,Q91 h z TI TO T f ∧ (∃ o,h.get? T = some o) ∧ N ≤ T

end Z
namespace Z
open PySem PySem.Spec PyProof.Rows L2 RT

end Z
namespace Z
open PySem PySem.Spec PyProof.Rows L2 RT

end Z
namespace Z
open PySem PySem.Spec PyProof.Rows L2

end Z
namespace Z
open PySem PySem.Spec PyProof.Rows L2

end Z
namespace Z
open PySem PySem.Spec PyProof.Rows L2


end Z
namespace Z
open PySem PySem.Spec PyProof.Rows L2


end Z
namespace Z
open PySem PySem.Spec PyProof.Rows L2
theorem Q1t {α:Type}:∀ xs:List α,(Qy xs.length).filterMap (fun m=>xs[m]?) = xs
 | []=>rfl
 | x :: xs=>by
  rw [Q8,List.range_succ_eq_map,J1]
  show x :: _ = _
  rw [List.filterMap_map]
  exact congrArg _ (Q1t xs)
theorem Q5L {α:Type} (xs:List α):(Qy xs.length).filterMap (fun (m:Nat)=>xs[((xs.length:Int) - 1 + (m:Int) * (-1)).toNat]?) = xs.reverse:=by
 have e:(Qy xs.length).filterMap (fun (m:Nat)=>xs[((xs.length:Int) - 1 + (m:Int) * (-1)).toNat]?) = (Qy xs.reverse.length).filterMap (fun m=>xs.reverse[m]?):=by
  rw [Jc]
  have:∀ ms:List Nat,(∀ m ∈ ms,m < xs.length) → ms.filterMap (fun (m:Nat)=>xs[((xs.length:Int) - 1 + (m:Int) * (-1)).toNat]?) = ms.filterMap (fun m=>xs.reverse[m]?):=by
   intro ms
   induction ms with
   | nil=>intro _; rfl
   | cons m ms ih =>
    intro h
    have hm:=h m (Qd ..)
    rw [J1,J1,ih fun z hz=>h z (Q9 _ hz),List.getElem?_reverse hm]
    have:((xs.length:Int) - 1 + (m:Int) * (-1)).toNat = xs.length - 1 - m:=by omega
    rw [this]
  exact this _ fun m hm=>List.mem_range.mp hm
 rw [e,Q1t]
section
variable {P:Program} {w:World} {A:Around} {E:Value → Shared → Prop} {s:Shared}
theorem Q3S {sl:Addr} {vl vu:Value} {t:Tok} {n:Nat} {Q:Int × Int × Nat → Shared → Prop} (hs:s.heap.IsSliceOf sl vl vu (.int (-1) t)) (pl:IsPart vl none) (pu:IsPart vu none)
  (h:Q ((n:Int) - 1,-1,n) s):wpAny (model P w) A (Builtin.Slice.sliceApplied (.ref sl) (pure (n:Int))) Q E s:=by
 obtain ⟨os,hos,hcs,hds⟩:=id hs
 unfold Builtin.Slice.sliceApplied Builtin.Slice.sliceFields
 refine wpAny_bind (wpAny_bind (wpAny_field hos hds (x:=vl) rfl (wpAny_bind (wpAny_field hos hds (x:=vu) rfl (wpAny_bind (wpAny_field hos hds (x:=.int (-1) t) rfl (wpAny_pure ?_)))))))
 refine wpAny_bind (HT.slicePart_ (.int (-1) t) ?_)
 show wpAny _ _ (if ((-1:Int) == 0) = true then _ else _) _ _ s
 rw [if_neg (by decide)]
 refine wpAny_bind (HT.slicePart_ pl (wpAny_bind (HT.slicePart_ pu (wpAny_bind (wpAny_pure ?_)))))
 have e1:Builtin.Slice.sliceAdjust none none (-1) (n:Int) = ((n:Int) - 1,-1):=rfl
 have e2:Builtin.Slice.slicePlaces ((n:Int) - 1) (-1) (-1) = n:=by
  unfold Builtin.Slice.slicePlaces
  rw [if_neg (by decide),show (-(-1:Int)) = 1 from rfl,Int.ediv_one]
  split <;> omega
 show wpAny _ _ (match Builtin.Slice.sliceAdjust none none (-1) (n:Int) with | (lo,hi)=>pure (lo,(-1:Int),Builtin.Slice.slicePlaces lo hi (-1))) _ _ s
 rw [e1]
 show wpAny _ _ (pure ((n:Int) - 1,(-1:Int),Builtin.Slice.slicePlaces ((n:Int) - 1) (-1) (-1))) _ _ s
 rw [e2]
 exact wpAny_pure h
theorem Q5e {t sl:Addr} {its:List Value} {vl vu:Value} {tk:Tok} {Q:Value → Shared → Prop} (ht:IsTup s.heap t its.toArray) (hs:s.heap.IsSliceOf sl vl vu (.int (-1) tk)) (pl:IsPart vl none) (pu:IsPart vu none)
  (h:Q (.ref s.heap.objs.size) { s with heap:=s.heap.push { cls:=.type "tuple",data:=.seq its.reverse.toArray } })
  (hsz:its.length ≤ sizeLine):wpAny (model P w) A (getItem (.ref t) (.ref sl)) Q E s:=by
 have htake:sizeOk (.seq its.reverse.toArray):=by
  show its.reverse.toArray.size ≤ sizeLine
  rw [Ja,Jc]
  exact hsz
 obtain ⟨os,hos,hcs,hds⟩:=id hs
 have hTs:s.TypeIs (.ref sl) "slice":=⟨os,hos,hcs⟩
 unfold getItem
 try with_reducible refine wpAny_holding ?_
 first | refine wpAny_bind (wpAny_pure ?_) | skip
 refine wpAny_bind (wpAny_sequenceKey ht.typeIs (by decide) ?_)
 refine wpAny_bind (wpAny_callSpecial?_slot (name:=Str.ofString "__getitem__") ht.typeIs PyProof.Rows.slot_tuple_getitem
  (wpAny_call_entry PyProof.Rows.slot_tuple_getitem ht.typeIs entry_tuple_getitem ?_ (args_tuple_getitem _ _)))
 show wpAny _ _ (Builtin.Tuple.tupleItemsOf (.ref t) >>= _) _ _ s
 refine wpAny_bind (PyProof.Rows.tupleItemsOf_ ht ?_)
 refine wpAny_bind (wpAny_typeOf hTs ?_)
 rw [if_pos (by decide)]
 refine wpAny_bind (Q3S hs pl pu ?_)
 show wpAny _ _ (if (((its.toArray.size:Int) - 1) == 0 && (-1:Int) == 1 && (its.toArray.size == its.toArray.size)) = true then _ else _) _ _ s
 rw [show ((-1:Int) == 1) = false from rfl,Bool.and_false,Bool.false_and,if_neg Bool.false_ne_true]
 have ep:((Qy its.toArray.size).filterMap fun (m:Nat)=>its.toArray[((its.toArray.size:Int) - 1 + (m:Int) * (-1)).toNat]?).toArray = its.reverse.toArray:=by
  rw [Ja]
  have e:(fun (m:Nat)=>its.toArray[((its.length:Int) - 1 + (m:Int) * (-1)).toNat]?) = fun (m:Nat)=>its[((its.length:Int) - 1 + (m:Int) * (-1)).toNat]?:=by
   funext m
   simp
  rw [e,Q5L]
 rw [ep]
 first
  | exact wpAny_bind (m:=Builtin.Tuple.tupleExact _) (wpAny_newObj_type (wpAny_pure ⟨_,rfl,wpAny_pure h⟩) htake)
  | exact wpAny_bind (m:=Builtin.Tuple.tupleExact _) (wpAny_newObj_type (wpAny_bind (wpAny_pure (wpAny_pure ⟨_,rfl,wpAny_pure h⟩))) htake)
  | exact wpAny_bind (wpAny_bind (m:=Builtin.Tuple.tupleExact _) (wpAny_newObj_type (wpAny_pure (wpAny_pure ⟨_,rfl,wpAny_pure h⟩)) htake))
  | exact wpAny_bind (wpAny_bind (m:=Builtin.Tuple.tupleExact _) (wpAny_newObj_type (wpAny_pure ⟨_,rfl,wpAny_pure h⟩) htake))
end
section
variable {X:Cx}
def Q9e (K:PySem.W.Frag) (te:TE):TE:=fun σ H Q=>te σ H fun x H1=>∃ a xs,x = .ref a ∧ SqT K H1 a xs ∧ ∀ p,H1 p = none → Q (.ref p) (upd H1 p (.tup xs.reverse))
theorem Q6Z {e:Expr} {te:TE} {k:Nat} {p1 p2 p3 pos:Pos} (he:PE X e te):PE X (.Subscript e (.Slice none none (some (.UnaryOp .USub (.Constant (.int 1) k p1) p2)) p3) pos) (Q9e X.K te):=by
 refine ⟨fun pins s σ H Q I h=>?_⟩
 refine Subscript_ (thn (he.run pins s σ H _ I h) fun v s1 ⟨x,H1,I1,r1,q1⟩=>?_)
 obtain ⟨a,xs,ex,hx,q⟩:=q1
 subst ex
 cases r1
 have hst:PO X (some (.UnaryOp .USub (.Constant (.int 1) k p1) p2)) (tPart (tUn (rU fun i=>.int (-i)) (tC (.int 1)))):=po_some (pe_un un_neg pe_int)
 refine wpAny_Slice (thn (po_none.run pins s1 σ H1 (fun o H2=>o = none ∧ H2 = H1) I1 ⟨rfl,rfl⟩) fun vl s2 ⟨l,H2,I2,pl,el,e2⟩=>?_)
 subst el e2
 refine thn (po_none.run pins s2 σ H2 (fun o H3=>o = none ∧ H3 = H2) I2 ⟨rfl,rfl⟩) fun vu s3 ⟨u,H3,I3,pu,eu,e3⟩=>?_
 subst eu e3
 refine thn (hst.run pins s3 σ H3 (fun o H4=>o = some (-1) ∧ H4 = H3) I3 ⟨1,rfl,-1,rfl,rfl,rfl⟩) fun vs s4 ⟨o,H4,I4,ps,eo,e4⟩=>?_
 subst eo e4
 cases ps with
 | int i t =>
 have I5:Inv X pins σ H4 { s4 with heap:=s4.heap.push { cls:=.type "slice",data:=.fields #[vl,vu,.int (-1) t] } }:=I4.kept (t':=s4.toks) fun b ob q=>Heap.get?_push_of_some _ q
 obtain ⟨its,r,ht,hz⟩:=I5.tuple hx
 have hlen:=r.length
 show wpAny (model X.prog X.w) X.A (subscriptTail e (.Slice none none (some (.UnaryOp .USub (.Constant (.int 1) k p1) p2)) p3) (.ref a) (.ref s4.heap.objs.size)) (EP X pins σ Q) X.xe { s4 with heap:=s4.heap.push { cls:=.type "slice",data:=.fields #[vl,vu,.int (-1) t] } }
 refine tail_any (ops:=[.ref a,.ref s4.heap.objs.size]) ht.typeIs (PyProof.Rows.slot_tuple_getitem.lookup) ?_ (by with_unfolding_all rfl)
 refine Q5e ht (Heap.IsSliceOf.new _ vl vu (.int (-1) t)) pl pu ?_ (by omega)
 refine ⟨.ref _,_,I5.laid (t':=s4.toks) (o:=.tup xs.reverse) (fun b ob q=>Heap.get?_push_of_some _ q) (Q5 _) ?_,rfl,q _ (I5.hok.fresh (Q5 _))⟩
 exact ⟨by rw [Jc]; exact hz,_,r.reverse,IsTup.new _ _⟩
def Q5j:D → Option D
 | .tuple ds=>some (.tuple ds.reverse)
 | _=>none
theorem Q7s {e:Expr} {fe:List Sl → Option (D × List Sl)} {R M:List Nat} {k:Nat} {p1 p2 p3 pos:Pos} (he:EV X e fe R M):EV X (.Subscript e (.Slice none none (some (.UnaryOp .USub (.Constant (.int 1) k p1) p2)) p3) pos) (f1 Q5j fe) [] M:=by
 obtain ⟨t,p,q⟩:=he
 refine ⟨_,Q6Z p,fun Y F H δ σ A S z δ' e Q kk=>?_⟩
 obtain ⟨d,e1,e2⟩:=Q1q e
 refine q Y F H δ σ A S d δ' e1 _ fun v F1 H1 st S1 r1=>?_
 unfold Q5j at e2
 split at e2
 ·cases e2
  obtain ⟨a,xs,rfl,h0,h1,h2⟩:=r1.tup S1
  exact ⟨a,xs,rfl,h1,fun c hc=>kk _ _ _ (Yo S1 st (Stp.laid S1 hc)) (S1.laid hc) (.inl (.tup (.inl (.inl upd_same)) (h2.reverse.mono (Stp.laid (M:=[]) S1 hc).f)))⟩
 ·cases e2
end
end Z
namespace PySem
open Sem (wp)
end PySem
namespace L2
open PySem PySem.Spec PyProof.Rows
end L2
namespace Z
open PySem PySem.Spec PyProof.Rows L2
variable {X:Cx}
end Z
namespace Z
open PySem PySem.Spec PyProof.Rows L2
variable {X:Cx} {pos:Pos}
end Z
set_option exponentiation.threshold 4000
namespace Z
open PySem PySem.Spec PyProof.Rows L2
def Mk (m:Nat):Prop:=m = 7 ∨ m = 31 ∨ m = 127 ∨ m = 511 ∨ m = 2047
def orb (m:Nat):Nat → Nat → Nat → Nat
 | 0,_,acc=>acc
 | n + 1,x,acc=>orb m n ((x * 5 + 1) % (m + 1)) (acc ||| (1 <<< x))
theorem Q2q (m x:Nat):∀ k,lcgI m ((x * 5 + 1) % (m + 1)) k = lcgI m x (k + 1)
 | 0=>rfl
 | k + 1=>by
  show (lcgI m ((x * 5 + 1) % (m + 1)) k * 5 + 1) % (m + 1) = (lcgI m x (k + 1) * 5 + 1) % (m + 1)
  rw [Q2q m x k]
theorem Q4P (m j:Nat):∀ (n x acc:Nat),(orb m n x acc).testBit j = true → acc.testBit j = true ∨ ∃ k,k < n ∧ lcgI m x k = j
 | 0,_,_,h=>.inl h
 | n + 1,x,acc,h=>by
  rcases Q4P m j n _ _ h with q | ⟨k,hk,e⟩
  ·rw [Nat.testBit_or,Bool.or_eq_true] at q
   rcases q with q | q
   ·exact .inl q
   ·rw [Nat.one_shiftLeft,Nat.testBit_two_pow] at q
    exact .inr ⟨0,Nat.succ_pos _,of_decide_eq_true q⟩
  ·rw [Q2q] at e
   exact .inr ⟨k + 1,Nat.succ_lt_succ hk,e⟩
theorem Q9O:(orb 7 8 0 0 == 2 ^ 8 - 1) = true:=by decide +kernel
theorem Q97:(orb 31 32 0 0 == 2 ^ 32 - 1) = true:=by decide +kernel
theorem Q7n:(orb 127 128 0 0 == 2 ^ 128 - 1) = true:=by decide +kernel
theorem Q7p:(orb 511 512 0 0 == 2 ^ 512 - 1) = true:=by decide +kernel
theorem Q5C:(orb 2047 2048 0 0 == 2 ^ 2048 - 1) = true:=by decide +kernel
theorem Zm {m j:Nat} (e:(orb m (m + 1) 0 0 == 2 ^ (m + 1) - 1) = true) (hj:j ≤ m):∃ k,k ≤ m ∧ lcgN m k = j:=by
 have e':=eq_of_beq e
 have b:(orb m (m + 1) 0 0).testBit j = true:=by
  rw [e',Nat.testBit_two_pow_sub_one]
  exact decide_eq_true (Nat.lt_succ_of_le hj)
 rcases Q4P m j _ _ _ b with q | ⟨k,hk,q⟩
 ·simp at q
 ·refine ⟨k,Nat.le_of_lt_succ hk,?_⟩
  have:=lcgN_add m 0 k
  rw [Nat.zero_add] at this
  rw [← this]
  exact q
theorem Q4U {m j:Nat} (hm:Mk m) (hj:j ≤ m):∃ k,k ≤ m ∧ lcgN m k = j:=by
 rcases hm with e | e | e | e | e
 ·subst e; exact Zm Q9O hj
 ·subst e; exact Zm Q97 hj
 ·subst e; exact Zm Q7n hj
 ·subst e; exact Zm Q7p hj
 ·subst e; exact Zm Q5C hj
theorem Q7D {m:Nat} (hm:Mk m):lcgN m (m + 1) = 0:=by
 rcases hm with e | e | e | e | e
 ·subst e; decide +kernel
 ·subst e; decide +kernel
 ·subst e; decide +kernel
 ·subst e; decide +kernel
 ·subst e; decide +kernel
theorem Q3M {m:Nat} (hm:Mk m):∀ k,lcgN m (m + 1 + k) = lcgN m k
 | 0=>Q7D hm
 | k + 1=>by
  have ih:=Q3M hm k
  show (lcgN m (m + 1 + k) * 5 + 1) % (m + 1) = _
  rw [ih]
  rfl
theorem Q5g {m i j:Nat} (hm:Mk m) (hi:i ≤ m) (hj:j ≤ m):∃ k,k ≤ m ∧ lcgI m i k = j:=by
 obtain ⟨p,hp,ep⟩:=Q4U hm hi
 obtain ⟨q,hq,eq⟩:=Q4U hm hj
 subst ep
 by_cases c:p ≤ q
 ·refine ⟨q - p,by omega,?_⟩
  rw [lcgN_add,← eq]
  congr 1
  omega
 ·refine ⟨q + (m + 1) - p,by omega,?_⟩
  rw [lcgN_add,← eq,← Q3M hm q]
  congr 1
  omega
theorem Q46 {m:Nat} (hm:Mk m) (h:Int) {j:Nat} (hj:j ≤ m):∃ n,n ≤ m + 12 ∧ runI m (SetTable.bits h) n = j:=by
 obtain ⟨k,hk,e⟩:=Q5g hm (runI_le m (SetTable.bits h) 12) hj
 refine ⟨12 + k,by omega,?_⟩
 rw [runI_tail (bits_lt h)]
 exact e
theorem Q4V {m:Nat} (hm:Mk m) (h:Int) {j:Nat} (hj:j ≤ m):∃ k,k < 10 * SetTable.turns m ∧ way m h k = j:=by
 obtain ⟨n,hn,e⟩:=Q46 hm h hj
 obtain ⟨k,hk,e2⟩:=run_nth m (SetTable.bits h) n
 have ht:n < SetTable.turns m:=by unfold SetTable.turns; omega
 refine ⟨k,by omega,?_⟩
 show (nth m _ k).j = j
 rw [e2]
 exact e
structure Tab (t:SetTable) (hs:List Int):Prop where
 ord:Ris t.place.toList
 nod:t.dummies = #[]
 siz:t.place.size = hs.length
 okm:Mk t.mask
 low:∀ x ∈ t.place.toList,x ≤ t.mask
 met:∀ (i:Nat) (h:Int) (j:Nat),hs[i]? = some h → t.place.toList[i]? = some j → ∃ k,way t.mask h k = j ∧ ∀ c,c < k → way t.mask h c ∈ t.place.toList
theorem Tab.len {t:SetTable} {hs:List Int} (T:Tab t hs):t.place.toList.length = hs.length:=T.siz
theorem Mk.le {m:Nat} (h:Mk m):m ≤ 2047:=by
 rcases h with e | e | e | e | e <;> subst e <;> decide
theorem Tab.gap {t:SetTable} {hs:List Int} (T:Tab t hs) (hl:hs.length ≤ t.mask) (h:Int):∃ G,G < 10 * SetTable.turns t.mask ∧ way t.mask h G ∉ t.place.toList ∧ ∀ c,c < G → way t.mask h c ∈ t.place.toList:=by
 obtain ⟨j,hj,out⟩:=st_missing t.place.toList (t.mask + 1) (by rw [T.len]; omega)
 obtain ⟨k,hk,e⟩:=Q4V T.okm h (Nat.le_of_lt_succ hj)
 subst e
 obtain ⟨G,g1,g2,g3⟩:=st_least (p:=fun c=>way t.mask h c ∉ t.place.toList) k out
 exact ⟨G,by omega,g2,fun c hc=>Decidable.byContradiction fun z=>g3 c hc z⟩
end Z
namespace Z
open PySem PySem.Spec PyProof.Rows L2
section
variable {P:Program} {w:World} {A:Around} {E:Value → Shared → Prop} {s:Shared}
def Q2p (P:Program) (w:World) (n:Nat) (s:Shared) (v:Value):Prop:=∀ (A:Around) (E:Value → Shared → Prop) (Q:Bool → Shared → Prop),Q false s → wpAny (model P w) A (ofAClassStatement n v) Q E s
def Zs (P:Program) (w:World) (n:Nat) (s:Shared) (v:Value):Prop:=∀ (A:Around) (E:Value → Shared → Prop) (Q:Bool → Shared → Prop),(∀ b,Q b s) → wpAny (model P w) A (hashByValue n v) Q E s
theorem Q2p.tup {n:Nat} {a:Addr} {o:Obj} {vs:Array Value} {m:Nat} (ho:s.heap.get? a = some o) (hc:o.cls = .type "tuple") (hd:o.data = .seq vs m) (hv:∀ v ∈ vs.toList,Q2p P w n s v):Q2p P w (n + 1) s (.ref a):=fun A E Q q=>by
 have ty:s.TypeIs (.ref a) "tuple":=⟨o,ho,hc⟩
 unfold ofAClassStatement
 refine wpAny_bind (wpAny_typeOf ty ?_)
 dsimp only
 have tt:(("tuple":String) == "tuple") = true:=by decide
 simp only [tt,if_true,Qt,Ql,if_false]
 try refine wpAny_bind (wpAny_pure ?_)
 try simp only [Qt,Ql,if_false]
 show wpAny (model P w) A (seqItems? (.ref a) >>= _) Q E s
 refine wpAny_bind (wpAny_seqItems ho hd ?_)
 dsimp only
 refine wpAny_bind ?_
 show wpAny (model P w) A (forIn vs _ _) _ E s
 rw [← Array.forIn_toList]
 refine wpAny_forIn_list _ (fun l b s'=>s' = s ∧ b.1 = none ∧ ∀ v ∈ l,Q2p P w n s v) _ (fun v l b s' h=>?_) (fun b s' h=>?_) _ _ ⟨rfl,rfl,hv⟩
 ·obtain ⟨rfl,h1,h2⟩:=h
  refine wpAny_bind (h2 v Qd A E _ ?_)
  simp only [Ql,if_false]
  exact wpAny_pure ⟨rfl,rfl,fun u hu=>h2 u (Q9 _ hu)⟩
 ·obtain ⟨b1,b2⟩:=b
  obtain ⟨rfl,h1,_⟩:=h
  cases h1
  exact wpAny_pure q
theorem Zs.tup {n:Nat} {a:Addr} {o:Obj} {vs:Array Value} {m:Nat} (ho:s.heap.get? a = some o) (hc:o.cls = .type "tuple") (hd:o.data = .seq vs m) (hv:∀ v ∈ vs.toList,Zs P w n s v):Zs P w (n + 1) s (.ref a):=fun A E Q q=>by
 have ty:s.TypeIs (.ref a) "tuple":=⟨o,ho,hc⟩
 unfold hashByValue
 refine wpAny_bind (wpAny_specialOf ty F.slot_tuple_hash.lookup ?_)
 show wpAny (model P w) A (seqItems? (.ref a) >>= _) Q E s
 refine wpAny_bind (wpAny_seqItems ho hd ?_)
 refine wpAny_bind ?_
 show wpAny (model P w) A (forIn vs _ _) _ E s
 rw [← Array.forIn_toList]
 refine wpAny_forIn_list _ (fun l b s'=>s' = s ∧ b.1 = none ∧ ∀ v ∈ l,Zs P w n s v) _ (fun v l b s' h=>?_) (fun b s' h=>?_) _ _ ⟨rfl,rfl,hv⟩
 ·obtain ⟨rfl,h1,h2⟩:=h
  refine wpAny_bind (h2 v Qd A E _ fun r=>?_)
  cases r
  ·simp only [Bool.not_false,if_true]
   exact wpAny_pure (wpAny_pure (q _))
  ·simp only [Qt,Ql,if_false]
   exact wpAny_pure ⟨rfl,rfl,fun u hu=>h2 u (Q9 _ hu)⟩
 ·obtain ⟨b1,b2⟩:=b
  obtain ⟨rfl,h1,_⟩:=h
  cases h1
  exact wpAny_pure (q _)
mutual
theorem Q5o:∀ (k:NestedKey) (v:Value) (n:Nat) (s:Shared),NestedIs s.heap k v → k.depth ≤ n → Q2p P w n s v
 | .none,_,n,_,.none,_=>fun _ _ _ q=>by cases n <;> exact wpAny_pure q
 | .num _,_,n,_,.bool _,_=>fun _ _ _ q=>by cases n <;> exact wpAny_pure q
 | .num _,_,n,_,.int _ _,_=>fun _ _ _ q=>by cases n <;> exact wpAny_pure q
 | .text _,_,n,_,.text _ _,_=>fun _ _ _ q=>by cases n <;> exact wpAny_pure q
 | .tup ks,_,0,_,.tup _ _ _ _,hn=>absurd hn (by simp [NestedKey.depth])
 | .tup ks,_,n + 1,s,.tup ho hc hd hk,hn=>.tup ho hc hd (Q1w ks _ n s hk (by simp only [NestedKey.depth] at hn; omega))
theorem Q1w:∀ (ks:List NestedKey) (vs:List Value) (n:Nat) (s:Shared),NestedAll s.heap ks vs → NestedKey.depthAll ks ≤ n → ∀ v ∈ vs,Q2p P w n s v
 | [],_,_,_,.nil,_,v,hv=>by cases hv
 | k :: ks,_,n,s,.cons x y,hn,v,hv=>by
  simp only [NestedKey.depthAll] at hn
  rcases Q7.mp hv with e | e
  ·subst e
   exact Q5o k _ n s x (by omega)
  ·exact Q1w ks _ n s y (by omega) v e
end
mutual
theorem Q3I:∀ (k:NestedKey) (v:Value) (n:Nat) (s:Shared),NestedIs s.heap k v → k.depth ≤ n → Zs P w n s v
 | .none,_,n,_,.none,_=>fun _ _ _ q=>by cases n <;> exact wpAny_pure (q _)
 | .num _,_,n,_,.bool _,_=>fun _ _ _ q=>by cases n <;> exact wpAny_pure (q _)
 | .num _,_,n,_,.int _ _,_=>fun _ _ _ q=>by cases n <;> exact wpAny_pure (q _)
 | .text _,_,n,_,.text _ _,_=>fun _ _ _ q=>by cases n <;> exact wpAny_pure (q _)
 | .tup ks,_,0,_,.tup _ _ _ _,hn=>absurd hn (by simp [NestedKey.depth])
 | .tup ks,_,n + 1,s,.tup ho hc hd hk,hn=>.tup ho hc hd (Q0E ks _ n s hk (by simp only [NestedKey.depth] at hn; omega))
theorem Q0E:∀ (ks:List NestedKey) (vs:List Value) (n:Nat) (s:Shared),NestedAll s.heap ks vs → NestedKey.depthAll ks ≤ n → ∀ v ∈ vs,Zs P w n s v
 | [],_,_,_,.nil,_,v,hv=>by cases hv
 | k :: ks,_,n,s,.cons x y,hn,v,hv=>by
  simp only [NestedKey.depthAll] at hn
  rcases Q7.mp hv with e | e
  ·subst e
   exact Q3I k _ n s x (by omega)
  ·exact Q0E ks _ n s y (by omega) v e
end
abbrev Kin (P:Program) (w:World) (h:Heap) (k:NestedKey) (b:Addr):Prop:=(nestedKind P w).is h k b
abbrev kh (w:World) (k:NestedKey):Int:=k.hash w
theorem Kin.keep {h h':Heap} {k:NestedKey} {b:Addr} (x:Kin P w h k b) (kp:∀ c o,h.get? c = some o → h'.get? c = some o):Kin P w h' k b:=⟨NestedIs.at (fun c o _ _ e _=>kp c o e) k _ x.1,x.2⟩
theorem Kin.same {h h':Heap} {k:NestedKey} {a b:Addr} {o:Obj} {es:Array (Int × Value)} {ep:Nat} {t:SetTable} (x:Kin P w h k b) (ho:h.get? a = some o) (hd:o.data = .set es ep t) (sb:Heap.SameBut a h h'):Kin P w h' k b :=
 ⟨NestedIs.at (fun c o' vs n e1 e2=>(sb.2 c fun z=>by subst z; rw [ho] at e1; cases e1; rw [hd] at e2; cases e2).trans e1) k _ x.1,x.2⟩
def rowK (w:World) (L:List (Addr × NestedKey)):List (Int × Value):=L.map fun p=>(kh w p.2,Value.ref p.1)
abbrev few1:Nat:=1200
structure Q6h (P:Program) (w:World) (h:Heap) (a:Addr) (L:List (Addr × NestedKey)) (es:Array (Int × Value)) (ep:Nat) (t:SetTable):Prop where
 ob:∃ o,h.get? a = some o ∧ o.ExactSet ∧ o.data = .set es ep t
 row:es.toList = rowK w L
 tab:Tab t (L.map fun p=>kh w p.2)
 one:(L.map (·.2)).Nodup
 key:∀ p ∈ L,Kin P w h p.2 p.1
 led:w.params.followText "set-order" = true ∨ t.led = true
 gap:L.length * 5 < t.mask * 3
 few:L.length < few1
variable {a:Addr} {L:List (Addr × NestedKey)} {es:Array (Int × Value)} {ep:Nat} {t:SetTable}
end
end Z
namespace Z
open PySem PySem.Spec PyProof.Rows L2
section
variable {P:Program} {w:World} {A:Around} {E:Value → Shared → Prop} {s:Shared}
variable {a:Addr} {L:List (Addr × NestedKey)} {es:Array (Int × Value)} {ep:Nat} {t:SetTable}
structure Q8J (ks:List (Addr × NestedKey)) (i:Nat) (L:List (Addr × NestedKey)):Prop where
 from_:∀ p ∈ L,p ∈ ks.take i
 all_:∀ p ∈ ks.take i,p.2 ∈ L.map (·.2)
 len_:L.length ≤ i
theorem Q8J.next {ks L L':List (Addr × NestedKey)} {i:Nat} {p:Addr × NestedKey} (g:Q8J ks i L) (e:ks[i]? = some p) (h1:p.2 ∈ L.map (·.2) → L' = L) (h2:p.2 ∉ L.map (·.2) → L'.Perm (p :: L)):Q8J ks (i + 1) L':=by
 have tk:=take_next e
 by_cases c:p.2 ∈ L.map (·.2)
 ·rw [h1 c]
  refine ⟨fun x hx=>by rw [tk]; exact Qf _ (g.from_ x hx),fun x hx=>?_,Qv g.len_⟩
  rw [tk] at hx
  rcases Qo.mp hx with z | z
  ·exact g.all_ x z
  ·rw [List.mem_singleton] at z
   subst z
   exact c
 ·have pm:=h2 c
  refine ⟨fun x hx=>?_,fun x hx=>?_,by rw [pm.length_eq,Q8]; have:=g.len_; omega⟩
  ·rw [tk]
   rcases Q7.mp (pm.mem_iff.mp hx) with z | z
   ·subst z
    exact Qm _ (List.mem_singleton.mpr rfl)
   ·exact Qf _ (g.from_ x z)
  ·rw [(pm.map (·.2)).mem_iff,Qp]
   rw [tk] at hx
   rcases Qo.mp hx with z | z
   ·exact Q9 _ (g.all_ x z)
   ·rw [List.mem_singleton] at z
    subst z
    exact Qd
theorem Q6h.keep {h h':Heap} (R:Q6h P w h a L es ep t) (ha:∀ o,h.get? a = some o → h'.get? a = some o) (hk:∀ p ∈ L,Kin P w h' p.2 p.1):Q6h P w h' a L es ep t:=by
 obtain ⟨⟨o,ho,z⟩,h2,h3,h4,_,h6,h7,h8⟩:=R
 exact ⟨⟨o,ha o ho,z⟩,h2,h3,h4,hk,h6,h7,h8⟩
end
end Z
namespace Z
open PySem PySem.Spec PyProof.Rows L2
mutual
def Zu:D → Option NestedKey
 | .none=>some .none
 | .int i=>some (.num i)
 | .str x=>some (.text x)
 | .tuple ds=>(K7 ds).map .tup
 | _=>none
def K7:List D → Option (List NestedKey)
 | []=>some []
 | d :: r=>(Zu d).bind fun k=>(K7 r).map fun ks=>k :: ks
end
mutual
theorem Q5n:∀ (d:D) (k:NestedKey),Zu d = some k → k.data = d
 | .none,_,h=>by cases h; rfl
 | .int i,_,h=>by cases h; rfl
 | .str i,_,h=>by cases h; rfl
 | .bool _,_,h=>by simp [Zu] at h
 | .list _,_,h=>by simp [Zu] at h
 | .dict _,_,h=>by simp [Zu] at h
 | .tuple ds,k,h=>by
  rw [Zu] at h
  cases e:K7 ds with
  | none=>rw [e] at h; cases h
  | some ks =>
   rw [e] at h
   cases h
   rw [NestedKey.data,Q1c ds ks e]
theorem Q1c:∀ (ds:List D) (ks:List NestedKey),K7 ds = some ks → NestedKey.datas ks = ds
 | [],_,h=>by cases h; rfl
 | d :: r,_,h=>by
  rw [K7] at h
  cases e:Zu d with
  | none=>rw [e] at h; cases h
  | some k =>
   rw [e] at h
   cases e2:K7 r with
   | none=>rw [e2] at h; cases h
   | some ks =>
    rw [e2] at h
    cases h
    rw [NestedKey.datas,Q5n d k e,Q1c r ks e2]
end
mutual
theorem Q58 {h:Heap}:∀ (d:D) (k:NestedKey) (v:Value) (as:List Addr),Zu d = some k → Reads h v d as → NestedIs h k v ∧ as = []
 | .none,_,_,_,e,r=>by cases e; cases r; exact ⟨.none,rfl⟩
 | .int i,_,_,_,e,r=>by cases e; cases r; exact ⟨.int _ _,rfl⟩
 | .str i,_,_,_,e,r=>by cases e; cases r; exact ⟨.text _ _,rfl⟩
 | .bool _,_,_,_,e,r=>by simp [Zu] at e
 | .list _,_,_,_,e,r=>by simp [Zu] at e
 | .dict _,_,_,_,e,r=>by simp [Zu] at e
 | .tuple ds,k,v,as,e,r=>by
  rw [Zu] at e
  cases e1:K7 ds with
  | none=>rw [e1] at e; cases e
  | some ks =>
   rw [e1] at e
   cases e
   cases r with
   | tuple h1 h2 h3 h4 =>
    obtain ⟨q1,q2⟩:=Q1u ds ks _ as e1 h4
    exact ⟨.tup h1 h2 h3 q1,q2⟩
theorem Q1u {h:Heap}:∀ (ds:List D) (ks:List NestedKey) (vs:List Value) (as:List Addr),K7 ds = some ks → ReadsAll h vs ds as → NestedAll h ks vs ∧ as = []
 | [],_,_,_,e,r=>by cases e; cases r; exact ⟨.nil,rfl⟩
 | d :: ds,ks,vs,as,e,r=>by
  rw [K7] at e
  cases e1:Zu d with
  | none=>rw [e1] at e; cases e
  | some k =>
   rw [e1] at e
   cases e2:K7 ds with
   | none=>rw [e2] at e; cases e
   | some ks' =>
    rw [e2] at e
    cases e
    cases r with
    | cons r1 r2 =>
     obtain ⟨q1,q2⟩:=Q58 d k _ _ e1 r1
     obtain ⟨q3,q4⟩:=Q1u ds ks' _ _ e2 r2
     subst q2
     subst q4
     exact ⟨.cons q1 q3,rfl⟩
end
theorem Q7F (l:List (Int ⊕ List Nat)):lexLt itemOrd l l = false:=lex_irrefl (O:=itemOrd) l
mutual
theorem Q2e:∀ (x y:D),PySem.W.alike x y = true → PySem.W.alike y x = true
 | .none,y,h=>by cases y <;> simp_all [PySem.W.alike]
 | .bool _,y,h=>by cases y <;> simp_all [PySem.W.alike]
 | .int _,y,h=>by cases y <;> simp_all [PySem.W.alike]
 | .str _,y,h=>by cases y <;> simp_all [PySem.W.alike]
 | .dict _,y,h=>by cases y <;> simp_all [PySem.W.alike]
 | .list xs,y,h=>by
  cases y with
  | list ys=>rw [PySem.W.alike] at h ⊢; exact Q0f xs ys h
  | _=>simp [PySem.W.alike] at h
 | .tuple xs,y,h=>by
  cases y with
  | tuple ys=>rw [PySem.W.alike] at h ⊢; exact Q0f xs ys h
  | _=>simp [PySem.W.alike] at h
theorem Q0f:∀ (xs ys:List D),PySem.W.alikeAll xs ys = true → PySem.W.alikeAll ys xs = true
 | [],[],_=>by simp [PySem.W.alikeAll]
 | [],_ :: _,_=>by simp [PySem.W.alikeAll]
 | _ :: _,[],_=>by simp [PySem.W.alikeAll]
 | x :: xs,y :: ys,h=>by
  rw [PySem.W.alikeAll,Q3] at h ⊢
  exact ⟨Q2e x y h.1,Q0f xs ys h.2⟩
end
theorem Q5b {x y:D} (ha:PySem.W.alike x y = true) {l m:List (Int ⊕ List Nat)} (e:PySem.W.keyToks x ++ l = PySem.W.keyToks y ++ m):PySem.W.keyToks x = PySem.W.keyToks y:=by
 have hb:=Q2e x y ha
 cases c:Jb x y with
 | true=>exact (PySem.W.toks_eqv x y ha).1 c
 | false =>
  cases c2:Jb y x with
  | true=>exact ((PySem.W.toks_eqv y x hb).1 c2).symm
  | false =>
   have a:=(PySem.W.toks_eqv x y ha).2 c l m
   have b:=(PySem.W.toks_eqv y x hb).2 c2 m l
   rw [e,Q7F] at a b
   exact lex_total (O:=itemOrd) _ _ a.symm b.symm
mutual
theorem Q6i:∀ (x y:D),PySem.W.alike x y = true → PySem.W.keyToks x = PySem.W.keyToks y → x = y
 | .none,y,h,e=>by cases y <;> simp_all [PySem.W.alike]
 | .bool a,y,h,e=>by
  cases y with
  | bool b=>cases a <;> cases b <;> simp_all [PySem.W.keyToks]
  | _=>simp [PySem.W.alike] at h
 | .int a,y,h,e=>by
  cases y with
  | int b=>simp [PySem.W.keyToks] at e; rw [e]
  | _=>simp [PySem.W.alike] at h
 | .str a,y,h,e=>by
  cases y with
  | str b =>
   simp only [PySem.W.keyToks,List.cons.injEq,Sum.inr.injEq,and_true] at e
   rw [PySem.W.str_of_cps e]
  | _=>simp [PySem.W.alike] at h
 | .dict _,y,h,e=>by simp [PySem.W.alike] at h
 | .list xs,y,h,e=>by
  cases y with
  | list ys =>
   rw [PySem.W.alike] at h
   rw [PySem.W.keyToks,PySem.W.keyToks] at e
   rw [Q18 xs ys h e]
  | _=>simp [PySem.W.alike] at h
 | .tuple xs,y,h,e=>by
  cases y with
  | tuple ys =>
   rw [PySem.W.alike] at h
   rw [PySem.W.keyToks,PySem.W.keyToks] at e
   rw [Q18 xs ys h e]
  | _=>simp [PySem.W.alike] at h
theorem Q18:∀ (xs ys:List D),PySem.W.alikeAll xs ys = true → PySem.W.keyToksAll xs = PySem.W.keyToksAll ys → xs = ys
 | [],[],_,_=>rfl
 | [],y :: ys,_,e=>by simp [PySem.W.keyToksAll] at e
 | x :: xs,[],_,e=>by simp [PySem.W.keyToksAll] at e
 | x :: xs,y :: ys,h,e=>by
  rw [PySem.W.alikeAll,Q3] at h
  rw [PySem.W.keyToksAll,PySem.W.keyToksAll] at e
  have e1:PySem.W.keyToks x ++ PySem.W.keyToksAll xs = PySem.W.keyToks y ++ PySem.W.keyToksAll ys:=(List.cons.inj e).2
  have e2:=Q5b h.1 e1
  rw [e2] at e1
  rw [Q6i x y h.1 e2,Q18 xs ys h.2 (List.append_cancel_left e1)]
end
section
variable {X:Cx}
def okB (ds:List D):Bool:=Q8z ds && ((ds.all fun d=>match d with | .tuple (_ :: _)=>true | _=>false) || (ds.all fun d=>match d with | .int _=>true | _=>false)) && ds.all (fun d=>decide (d.depth ≤ 8)) && (K7 ds).isSome
end
end Z
namespace Z
open PySem PySem.Spec PyProof.Rows L2

end Z
namespace Z
open PySem PySem.Spec PyProof.Rows L2

end Z
namespace Z
open PySem PySem.Spec PyProof.Rows L2
mutual
theorem Q54:∀ k:NestedKey,Zu k.data = some k
 | .none=>rfl
 | .num _=>rfl
 | .text _=>rfl
 | .tup ks=>by rw [NestedKey.data,Zu,Q1d ks]; rfl
theorem Q1d:∀ ks:List NestedKey,K7 (NestedKey.datas ks) = some ks
 | []=>rfl
 | k :: ks=>by rw [NestedKey.datas,K7,Q54 k,Q1d ks]; rfl
end
mutual
theorem Q49:∀ k:NestedKey,k.data.depth = k.depth
 | .none=>rfl
 | .num _=>rfl
 | .text _=>rfl
 | .tup ks=>by
  rw [NestedKey.data,PyData.depth,NestedKey.depth,Q1g ks]
theorem Q1g:∀ ks:List NestedKey,Qr (NestedKey.datas ks) = NestedKey.depthAll ks
 | []=>rfl
 | k :: ks=>by
  rw [NestedKey.datas,Qr,NestedKey.depthAll,Q49 k,Q1g ks]
end

end Z
namespace Z
open PySem PySem.Spec PyProof.Rows L2

section
variable {X:Cx}

end
end Z
namespace Z
open PySem PySem.Spec PyProof.Rows L2

end Z
namespace Z
open PySem PySem.Spec PyProof.Rows L2


end Z
namespace Z
open PySem PySem.Spec PyProof.Rows L2

end Z
namespace Z
open PySem PySem.Spec PyProof.Rows L2

end Z
namespace Z
open PySem PySem.Spec PyProof.Rows L2


end Z
namespace Z
open PySem PySem.Spec PyProof.Rows L2


end Z
namespace Z
open PySem PySem.Spec PyProof.Rows L2

end Z
namespace Z
open PySem PySem.Spec PyProof.Rows L2


end Z
namespace Z
open PySem PySem.Spec PyProof.Rows L2
variable {X:Cx}
end Z
namespace PySem

end PySem
namespace PySem

end PySem
namespace Z
open PySem PySem.Spec PyProof.Rows L2

end Z
namespace Z
open PySem PySem.Spec PyProof.Rows L2

end Z
namespace Z
open PySem PySem.Spec PyProof.Rows L2
section
variable {X:Cx} {pins:List (Addr × Obj)} {σ:L2.St} {H G:Hp} {s:Shared}
mutual
theorem Rp.readsM (I:Inv X pins σ H s) (g:Same G H) (hm:H sysModules = none):∀ (d:D) (v:V) (u:Value),Rp X.K G v d → RelV v u → ∃ as,Reads s.heap u d as ∧ sysModules ∉ as
 | .none,_,_,h,r=>by
  cases h
  cases r
  exact ⟨_,Reads.none,Qa⟩
 | .bool b,_,_,h,r=>by
  cases h
  cases r
  exact ⟨_,Reads.bool b,Qa⟩
 | .int i,_,_,h,r=>by
  cases h
  obtain ⟨t,rfl⟩:=r
  exact ⟨_,Reads.int i t,Qa⟩
 | .str x,_,_,h,r=>by
  cases h
  obtain ⟨t,rfl⟩:=r
  exact ⟨_,Reads.str x t,Qa⟩
 | .list ds,_,_,h,r=>by
  cases h with
  | lst hs ha =>
   rename_i p xs
   cases r
   obtain ⟨its,rv,⟨o,n,ho,hc,_,hd⟩,_⟩:=I.list (SqL.of (g _ _ hs))
   obtain ⟨as,hr,hn⟩:=Rp.readsAllM I g hm ds _ its ha rv
   refine ⟨_,Reads.list ho hc hd hr,fun hz=>?_⟩
   rcases Q7.mp hz with hz | hz
   ·have:=g _ _ hs
    rw [← hz,hm] at this
    cases this
   ·exact hn hz
 | .tuple ds,_,_,h,r=>by
  cases h with
  | tup hs ha =>
   cases r
   obtain ⟨its,rv,⟨o,ho,hc,n,hd⟩,_⟩:=I.tuple (Same.sqt g hs)
   obtain ⟨as,hr,hn⟩:=Rp.readsAllM I g hm ds _ its ha rv
   exact ⟨_,Reads.tuple ho hc hd hr,hn⟩
 | .dict ds,_,_,h,r=>by
  cases h with
  | dic hs ha =>
   cases r
   obtain ⟨_,_,hsm,vs,rel,o,es,ep,ho,hx,hdat,_,hp,_⟩:=I.hok _ _ (g _ _ hs)
   obtain ⟨bs,h1,h2,hn⟩:=Rp.readsKvM I g hm ds _ vs es.toList ha rel hp
   refine ⟨_,Reads.dict ho hx.1 hdat h1 h2,fun hz=>?_⟩
   rcases Q7.mp hz with hz | hz
   ·have:=g _ _ hs
    rw [← hz,hm] at this
    cases this
   ·exact hn hz
theorem Rp.readsAllM (I:Inv X pins σ H s) (g:Same G H) (hm:H sysModules = none):∀ (ds:List D) (vs:List V) (us:List Value),Rps X.K G vs ds → Vals vs us → ∃ as,ReadsAll s.heap us ds as ∧ sysModules ∉ as
 | [],_,_,h,r=>by
  cases h
  cases r
  exact ⟨_,ReadsAll.nil,Qa⟩
 | d :: ds,_,_,h,r=>by
  cases h with
  | cons h1 h2 =>
   cases r with
   | cons r1 r2 =>
    obtain ⟨as,q1,m1⟩:=Rp.readsM I g hm d _ _ h1 r1
    obtain ⟨bs,q2,m2⟩:=Rp.readsAllM I g hm ds _ _ h2 r2
    exact ⟨_,ReadsAll.cons q1 q2,fun hz=>(Qo.mp hz).elim m1 m2⟩
theorem Rp.readsKvM (I:Inv X pins σ H s) (g:Same G H) (hm:H sysModules = none):∀ (ds:List (D × D)) (kvs:List (Key × V)) (vs:List (Key × Value)) (es:List DictEntry),RpK X.K G kvs ds → KV kvs vs → Pairs (mixKind X.prog X.w) es vs →
  ∃ bs,ReadsAll s.heap (es.map (·.key)) (ds.map (·.1)) [] ∧ ReadsAll s.heap (es.map (·.val)) (ds.map (·.2)) bs ∧ sysModules ∉ bs
 | [],_,_,_,h,r,p=>by
  cases h
  cases r
  cases p
  exact ⟨_,ReadsAll.nil,ReadsAll.nil,Qa⟩
 | (dk,dv) :: ds,_,_,_,h,r,p=>by
  cases h with
  | cons h1 h2 =>
   cases r with
   | cons r1 r2 =>
    rename_i q vs'
    obtain ⟨k',u⟩:=q
    obtain ⟨e1,r1⟩:=r1
    simp only at e1
    subst e1
    cases p with
    | cons p1 p2 p3 =>
     obtain ⟨as,q1,m1⟩:=Rp.readsM I g hm dv _ _ h1 r1
     obtain ⟨bs,q2,q3,m3⟩:=Rp.readsKvM I g hm ds _ _ _ h2 r2 p3
     refine ⟨as ++ bs,?_,?_,fun hz=>(Qo.mp hz).elim m1 m3⟩
     ·exact ReadsAll.cons (as:=[]) (bs:=[]) (Q1V p1) q2
     ·rw [Qp,p2]
      exact ReadsAll.cons q1 q3
end
end
section
variable {X:Cx} {pos:Pos}
def Ko (d:D):Option D:=if d.showable && decide (d.shown.length ≤ sizeLine) && decide (d.depth ≤ 64) then some (.str d.shown) else none
def Q5M (X:Cx):List V → Hp → VK → Prop:=fun xs H Q=>∃ x G d,xs = [x] ∧ Same G H ∧ Rp X.K G x d ∧ d.showable = true ∧ d.shown.length ≤ sizeLine ∧ d.depth ≤ 64 ∧ Q (.str d.shown) H
theorem Q3C (hg:X.A.guards = some []) (hu:X.A.units + 66 < cLine) (hM:∃ o,X.base.get? sysModules = some o):CallR X (.builtin "repr") (Q5M X):=by
 intro pins s σ H xs us Q I r h
 obtain ⟨x,G,d,rfl,sG,rp,h1,h3,h4,q⟩:=h
 obtain ⟨u,rfl,rx⟩:=vals1 r
 obtain ⟨as,rd,hna⟩:=Rp.readsM I sG (let ⟨o,e⟩:=hM; (I.bs _ o e).2) d x u rp rx
 have go:∀ a,u = .ref a → wpAny (model X.prog X.w) X.A (call (.builtin "repr") [u]) (EP X pins σ Q) X.xe s:=fun a e=>by
  subst e
  exact repr_of_reads' rd h1 (fun _=>hna) hg (by omega) (fun _ _ e=>e) (fun h' t tk hk=>⟨.str d.shown,H,I.kept (t':=tk) hk,⟨_,rfl⟩,q⟩) h3
 cases rp with
 | int i =>
  obtain ⟨t,rfl⟩:=rx
  exact PySem.P.repr_of_int (by simpa [J9] using h1) ⟨.str _,H,I.tok _,⟨_,rfl⟩,q⟩
 | lst _ _=>exact go _ rx
 | tup _ _=>exact go _ rx
 | dic _ _=>exact go _ rx
 | non=>cases rx; exact PySem.P.repr_of_none ⟨.str _,H,I.tok _,⟨_,rfl⟩,q⟩
 | bl b=>cases rx; exact PySem.P.repr_of_bool ⟨.str _,H,I.tok _,⟨_,rfl⟩,q⟩
 | str z=>obtain ⟨t,rfl⟩:=rx; exact PySem.P.repr_of_str ⟨.str _,H,I.tok _,⟨_,rfl⟩,q⟩ h3
theorem Q3E:Q0z X (Q5M X) (g1 Ko):=by
 intro Y F H δ σ A R xs ds z S r hg Q k
 obtain ⟨d,rfl,hg'⟩:=W7 hg
 obtain ⟨v,rfl,rv⟩:=r.one
 unfold Ko at hg'
 split at hg'
 ·rename_i c
  cases hg'
  simp only [Q3,decide_eq_true_eq] at c
  exact ⟨v,_,d,rfl,Q06 S,rv.ex S,c.1.1,c.1.2,c.2,k _ F H Stp.refl S (.str _)⟩
 ·cases hg'
end
theorem Q93 {P:Program} {w:World} {K:PySem.W.Frag} {mg mb:Str → Option Value} {k:Nat} {fa a:Addr} {fd:FuncData} {x:Str} {φ:List Sl → Option (D × List Sl)} {s1:Shared} {vs:List Value} {ns:List Int}
  (KX:K.In s1.heap) (hns:s1.heap.Ns mainGlobals mg) (hb:s1.heap.Ns builtinsNs mb) (hbb:∀ x:Str,x ≠ "__name__" → mb x = bootBuiltins x) (hlim:s1.heap.NoLimit) (hg:s1.gens = #[])
  (ha:s1.heap.get? a = some { cls:=.type "list",data:=.seq vs.toArray }) (hi:IntsAre vs ns) (hl:ns.length ≤ sizeLine) (hr:Room k callerA)
  (hsm:∃ mm,s1.heap.Ns sysModules mm) (Fn:∀ base:Heap,K.In base → base.Ns mainGlobals mg → (∃ o,base.get? sysModules = some o) → FnG P w K mg base CX0 k fa fd [x] (spF K 1 .n φ)) (hbind:∀ (s:Shared) (u:Value),BindsTo s fd ⟨[u],[]⟩ [(x,u)])
  (hφ:∃ outs,φ [.scr ns] = some (.bool true,outs)) :
  codeAny (model P w) callerA (.call (.ref fa) ⟨[.ref a],[]⟩) (fun r s'=>r = .ok (.ret (.bool true)) ∧ OldK s1.heap s'.heap ∧ s'.os = s1.os ∧ AllBare s'.gens) s1:=by
 obtain ⟨outs,hφ⟩:=hφ
 have rv:=vals_ints hi
 have lv:=hi.length
 -- the heap H: nothing,or the script alone
 have go:∀ H:Hp,L2.Only H → SqL K H a (ns.map V.int) → HOk P w H s1.heap → (∀ b,H b ≠ none → b = a) → (H a ≠ none → K.lookup a = none) →
   codeAny (model P w) callerA (.call (.ref fa) ⟨[.ref a],[]⟩) (fun r s'=>r = .ok (.ret (.bool true)) ∧ OldK s1.heap s'.heap ∧ s'.os = s1.os ∧ AllBare s'.gens) s1:=by
  intro H hO hS hok hA hK
  have free:∀ {b:Addr} {o:Obj},s1.heap.get? b = some o → o.data ≠ .seq vs.toArray → H b = none:=fun {b o} e d=>by
   cases q:H b with
   | none=>rfl
   | some u =>
    obtain rfl:=hA b (by rw [q]; simp)
    rw [ha] at e
    cases e
    exact absurd rfl d
  have there:∀ {b:Addr} {o:Obj},s1.heap.get? b = some o → H b = none → (hidT s1.heap H).get? b = some o:=fun e n=>hidT_get e n
  have nsK:∀ {b:Addr} {m:Str → Option Value},s1.heap.Ns b m → (hidT s1.heap H).Ns b m:=fun {b m} ⟨o,es,ep,e,d,r⟩=>⟨o,es,ep,there e (free e (by rw [d]; intro z; cases z)),d,r⟩
  have hKb:K.In (hidT s1.heap H):=fun b o e=>there (KX b o e) (by
   cases q:H b with
   | none=>rfl
   | some u =>
    obtain rfl:=hA b (by rw [q]; simp)
    have:=hK (by rw [q]; simp)
    rw [e] at this
    cases this)
  have hM:Mod K mg (hidT s1.heap H):=by
   obtain ⟨mc,l1,l2⟩:=hlim
   exact ⟨hKb,nsK hns,⟨mb,nsK hb,hbb⟩,mc,nsK l1,l2⟩
  have e0:Env0 P w K mg (hidT s1.heap H) callerA [] s1 H:=⟨rfl,hM,fun b o e=>of_hidT e,Nat.le_of_eq (hidT_size _ _),trivial,fun b hb=>absurd (show b ∈ ([]:List Addr) from hb) (by simp),hok,.of_eq hg⟩
  have run:=(Fn _ hKb (nsK hns) (let ⟨_,hn⟩:=hsm; let ⟨o,_,_,e,_⟩:=nsK hn; ⟨o,e⟩)).run callerA [] s1 H ⟨[.ref a],[]⟩ [.ref a] [.ref a] _ _ rfl hr e0 (hbind s1 (.ref a)) (.cons rfl .nil) (Q4h hS hφ)
  refine codeAny_mono run fun r s' h=>?_
  match r,h with
  | .error _,h=>exact h.elim
  | .ok .next,h=>exact h.elim
  | .ok .brk,h=>exact h.elim
  | .ok .cont,h=>exact h.elim
  | .ok (.ret u),h =>
   obtain ⟨v,H',os,bare,un,hok',r',q⟩:=h
   obtain rfl:v = .bl true:=q
   obtain rfl:u = Value.bool true:=r'
   refine ⟨rfl,OldK.of_keep fun b o e=>?_,os,bare⟩
   cases q:H b with
   | none=>exact un.keep b o e q (fun z=>absurd (show b ∈ ([]:List Addr) from z) (by simp)) (by simp)
   | some u =>
    obtain ⟨ob,xs,rfl⟩:=Q5P hO q
    obtain ⟨e1,_⟩:=hok b _ q
    obtain ⟨e2,_⟩:=hok' b _ (un.frzs b ob _ q)
    rw [e] at e1
    cases e1
    exact e2
 cases hk:K.lookup a with
 | some o =>
  have e:=KX a o hk
  rw [ha] at e
  cases e
  exact go (fun _=>none) (fun _=>.inl rfl) (.inr ⟨_,vs.toArray,_,hk,rfl,rfl,rfl,by rw [Ja,lv]; exact hl,by simpa using rv⟩) (fun b u z=>by cases (show (none:Option HO) = some u from z)) (fun b z=>absurd rfl z) (fun z=>absurd rfl z)
 | none =>
  have yes:∀ b,b = a → (if b = a then some (HO.frz { cls:=.type "list",data:=.seq vs.toArray } (.lst (ns.map V.int))) else none) = some (HO.frz { cls:=.type "list",data:=.seq vs.toArray } (.lst (ns.map V.int))):=fun b h=>if_pos h
  refine go (fun b=>if b = a then some (.frz { cls:=.type "list",data:=.seq vs.toArray } (.lst (ns.map V.int))) else none) (fun b=>?_) (.inl (.inr ⟨_,yes a rfl⟩)) (fun b u z=>?_) (fun b z=>?_) fun _=>hk
  ·by_cases c:b = a
   ·exact .inr ⟨_,_,yes b c⟩
   ·exact .inl (if_neg c)
  ·by_cases c:b = a
   ·subst c
    cases (yes b rfl).symm.trans z
    exact ⟨ha,by rw [Qc]; exact hl,vs,_,rv,ha⟩
   ·cases (if_neg c:(if b = a then some (HO.frz { cls:=.type "list",data:=.seq vs.toArray } (.lst (ns.map V.int))) else none) = none).symm.trans z
  ·by_cases c:b = a
   ·exact c
   ·exact absurd (if_neg c) z
end Z
namespace Z
open PySem PySem.Spec PyProof.Rows L2
section
variable {X:Cx} {CX:CXT} {k:Nat} {f:Addr} {fd:FuncData} {ps:List Str} {sp:Sp} {x:Str} {p pos:Pos} {E:XK}
theorem FnG.pe0 (Fn:FnG X.prog X.w X.K X.mg X.base CX k f fd ps sp) (hG:X.A.guards = some []) (hR:Room k X.A) (gl:Gl X x) (m:X.mg x = some (.ref f)) (kp:PySem.W.keepIn X.K (.ref f) = true) (hb:Binds X.K fd ps []) (hx:Passes CX X E)
  (db:(x == ("__debug__":Str)) = false):PE X (.Call (.Name x p) [] [] pos) (tCall sp [] E tNil):=by
 constructor
 intro pins s σ G Q I q
 refine wpAny_Call_Name_kw (ld_glob I gl m ?_ db)
 refine PySem.W.callWith_K0 I.kIn kp ?_
 have q:sp ([] ++ []) G Q E:=q
 rw [Qx] at q
 have n:=Fn.len _ _ _ _ q
 have b:=hb s [] I.kIn n
 refine wpAny_call (codeAny_mono (Fn.run X.A X.stack s G ⟨[],[]⟩ [] [] Q E hG hR I.env0 b .nil q) ?_)
 intro res s2 hq
 cases res with
 | error er=>exact hx pins σ G s er s2 I hq
 | ok fl =>
  cases fl with
  | ret u=>exact I.after hq
  | next=>exact hq.elim
  | brk=>exact hq.elim
  | cont=>exact hq.elim
end

end Z
namespace Z
open PySem PySem.Spec PyProof.Rows L2
section
variable {X:Cx}
def Q3v (d e:D):Option D:=match d,e with
 | .bool b,.int j=>some (.int ((if b = true then (1:Int) else 0) + j))
 | _,_=>X2 d e
def rBI:R2:=fun x y H Q=>∃ b j,x = .bl b ∧ y = .int j ∧ Q (.int ((if b = true then (1:Int) else 0) + j)) H
theorem Q9x:OpR X (binaryOp .Add) rBI:=by
 intro pins s σ H x y v u Q I rx ry h
 obtain ⟨b,j,rfl,rfl,q⟩:=h
 cases rx
 obtain ⟨t',rfl⟩:=ry
 exact PySem.IntBool.add_bool_int ⟨.int _,H,I.tok _,⟨_,rfl⟩,q⟩
def Q84 (K:PySem.W.Frag):R2:=fun x y H Q=>Q6K K x y H Q ∨ rBI x y H Q
theorem Q78:OpR X (binaryOp .Add) (Q84 X.K):=Jw.or Q9x
theorem Q7r:OpS X (Q84 X.K) Q3v:=by
 intro Y F H δ σ A R x y d e z S rx ry hg Q k
 unfold Q3v at hg
 split at hg
 ·rename_i b j
  cases hg
  exact .inr ⟨b,j,rx.bl,ry.int,k _ F H Stp.refl S (.int _)⟩
 ·exact .inl (Jx Y F H δ σ A R x y d e z S rx ry hg Q k)
end
end Z
namespace Z
open PySem PySem.Spec PyProof.Rows L2
section
variable {X:Cx}
def eqZ (d e:D):Option Bool:=match d,e with
 | .list xs,.list ys=>if xs.length = ys.length then eqD (.list xs) (.list ys) else some false
 | d,e=>eqD d e
def neZ (d e:D):Option Bool:=(eqZ d e).map (!·)
theorem Kq {h:Heap}:∀ {vs:List Value} {ds:List D} {as:List Addr},ReadsAll h vs ds as → vs.length = ds.length
 | _,_,_,.nil=>rfl
 | _,_,_,.cons _ t=>by rw [Q8,Q8,Kq t]
theorem Kj {h:Heap} {u:Value} {ds:List D} {as:List Addr} (r:Reads h u (.list ds) as):∃ a items,u = .ref a ∧ h.IsList a items ∧ items.size = ds.length:=by
 cases r with
 | list ho hc hd hr =>
  rename_i a o vs n as
  refine ⟨a,vs,rfl,⟨o,ho,hc,n,hd⟩,?_⟩
  have:=Kq hr
  rw [← this,Array.length_toList]
theorem Q8g (hu:X.A.units + 65 < cLine):Q1j X .Eq eqZ:=by
 intro pins s σ H x y v u Q I rx ry G d e b sG r1 r2 hg q
 unfold eqZ at hg
 split at hg
 ·split at hg
  ·exact K4 hu pins s σ H x y v u Q I rx ry G _ _ b sG r1 r2 hg q
  ·rename_i xs ys hne
   cases hg
   obtain ⟨as,q1⟩:=Rp.reads I sG _ x v r1 rx
   obtain ⟨bs,q2⟩:=Rp.reads I sG _ y u r2 ry
   obtain ⟨a,its,rfl,l1,n1⟩:=Kj q1
   obtain ⟨b,its2,rfl,l2,n2⟩:=Kj q2
   exact SeqAt.RcAt.lists_lengths l1 l2 (by rw [n1,n2]; simpa using hne) (by omega) _ _ _ _ ⟨.bl _,H,I,rfl,q⟩
 ·exact K4 hu pins s σ H x y v u Q I rx ry G _ _ b sG r1 r2 hg q
theorem Q8W (hu:X.A.units + 65 < cLine):Q1j X .NotEq neZ:=by
 intro pins s σ H x y v u Q I rx ry G d e b sG r1 r2 hg q
 unfold neZ eqZ at hg
 split at hg
 ·split at hg
  ·exact Q1f hu pins s σ H x y v u Q I rx ry G _ _ b sG r1 r2 hg q
  ·rename_i xs ys hne
   cases hg
   obtain ⟨as,q1⟩:=Rp.reads I sG _ x v r1 rx
   obtain ⟨bs,q2⟩:=Rp.reads I sG _ y u r2 ry
   obtain ⟨a,its,rfl,l1,n1⟩:=Kj q1
   obtain ⟨b,its2,rfl,l2,n2⟩:=Kj q2
   exact SeqAt.RcNeAt.lists_lengths l1 l2 (by rw [n1,n2]; simpa using hne) (by omega) _ _ _ _ ⟨.bl _,H,I,rfl,q⟩
 ·exact Q1f hu pins s σ H x y v u Q I rx ry G _ _ b sG r1 r2 hg q
end
end Z
namespace Z
open PySem PySem.Spec PyProof.Rows L2
def eLi {α:Type} (e:α → D) (xs:List α):D:=.list (xs.map e)
def eTu {α:Type} (e:α → D) (xs:List α):D:=.tuple (xs.map e)
def eP1 {α:Type} (a:α → D) (p:α):D:=.tuple [a p]
def eP2 {α β:Type} (a:α → D) (b:β → D) (p:α × β):D:=.tuple [a p.1,b p.2]
def eP3 {α β γ:Type} (a:α → D) (b:β → D) (c:γ → D) (p:α × β × γ):D:=.tuple [a p.1,b p.2.1,c p.2.2]
def eDi {α β:Type} (a:α → D) (b:β → D) (xs:List (α × β)):D:=.dict (xs.map fun p=>(a p.1,b p.2))
def eD (d:D):D:=d
structure Dk where
 cs:List Int
 m:Int
 n:Int
def sDk (k:Dk):Sl:=.dk k.cs k.m k.n
def Q0a {α β:Type} (v:α) (k:α → Option β):Option β:=k v
abbrev Fe:=List Sl → Option (D × List Sl)
abbrev Fb:=List Sl → Option (Bool × List Sl)
abbrev Fs:=List Sl → Option (List D × List Sl)
abbrev Fk:=List Sl → Option (List Ar × List Sl)
abbrev Fo:=List Sl → Option (Option Int × List Sl)
def VP (f:Fe) (δ:List Sl) (d:D):Prop:=f δ = some (d,δ)
def VN {α:Type} (f:Fe) (δ:List Sl) (o:Option α) (r:α → D × List Sl):Prop:=∀ a,o = some a → f δ = some (r a)
def AP (f:Fs) (δ:List Sl) (d:List D):Prop:=f δ = some (d,δ)
def AN {α:Type} (f:Fs) (δ:List Sl) (o:Option α) (r:α → List D × List Sl):Prop:=∀ a,o = some a → f δ = some (r a)
def TP (f:Fb) (δ:List Sl) (b:Bool):Prop:=f δ = some (b,δ)
def TN {α:Type} (f:Fb) (δ:List Sl) (o:Option α) (r:α → Bool × List Sl):Prop:=∀ a,o = some a → f δ = some (r a)
def KP (f:Fk) (δ:List Sl) (d:List Ar):Prop:=f δ = some (d,δ)
def KN {α:Type} (f:Fk) (δ:List Sl) (o:Option α) (r:α → List Ar × List Sl):Prop:=∀ a,o = some a → f δ = some (r a)
def OP (f:Fo) (δ:List Sl) (d:Option Int):Prop:=f δ = some (d,δ)
theorem Y3 {α β:Type} {o:Option α} {k:α → Option β} {b:β} (h:o.bind k = some b):∃ a,o = some a ∧ k a = some b:=by
 cases o with
 | none=>cases h
 | some a=>exact ⟨a,rfl,h⟩
theorem Kv {α β:Type} {o:Option α} {k:α → β} {b:β} (h:o.map k = some b):∃ a,o = some a ∧ k a = b:=by
 cases o with
 | none=>cases h
 | some a=>exact ⟨a,rfl,by simpa using h⟩
section
variable {α β γ:Type} {δ δ1:List Sl} {d a b c z:D} {fa fb fc f:Fe} {o:Option α} {r:α → D × List Sl}
theorem Jg:VP (Jl d) δ d:=rfl
theorem Jf (i:Nat) (h:δ[i]? = some (.fz d):=by rfl):VP (Jn i) δ d:=by
 unfold VP Jn
 rw [h]
theorem Q5u (i:Nat) {ds:List D} (h:δ[i]? = some (.ow (.list ds)):=by rfl):VP (fRd i) δ (.list ds):=by
 unfold VP fRd
 rw [h]
theorem Qa6 (h:VP f δ a) (e:a = b):VP f δ b:=e ▸ h
theorem Q9Z {r':α → D × List Sl} (h:VN f δ o r) (e:∀ x,r x = r' x):VN f δ o r':=fun x hx=>(h x hx).trans (by rw [e])
theorem Q1s {m:α → β} {r':β → D × List Sl} (h:VN f δ o r) (e:∀ x,r x = r' (m x)):VN f δ (o.map m) r':=fun y hy=>by
 obtain ⟨x,hx,rfl⟩:=Kv hy
 exact (h x hx).trans (by rw [e])
theorem Q87 (h:VP f δ a) {v:β} {r':β → D × List Sl} (e:(a,δ) = r' v):VN f δ (some v) r':=fun y hy=>by
 cases hy
 exact (show f δ = some (a,δ) from h).trans (by rw [e])
theorem Jh:AP Jt δ []:=rfl
variable {fr:Fs} {ds:List D}
theorem Je (ha:VP fa δ a) (hr:AP fr δ ds):AP (Ji fa fr) δ (a :: ds):=by
 unfold AP Ji
 rw [show fa δ = some (a,δ) from ha,Q1,show fr δ = some (ds,δ) from hr]
 rfl
theorem Ye {r:α → List D × List Sl} (ha:VP fa δ a) (hr:AN fr δ o r):AN (Ji fa fr) δ o (fun x=>(a :: (r x).1,(r x).2)):=fun x hx=>by
 unfold Ji
 rw [show fa δ = some (a,δ) from ha,Q1,hr x hx]
 rfl
theorem Ju {ds:α → List D} (ha:VN fa δ o r) (hr:∀ x,AP fr (r x).2 (ds x)):AN (Ji fa fr) δ o (fun x=>((r x).1 :: ds x,(r x).2)):=fun x hx=>by
 unfold Ji
 rw [ha x hx,Q1,show fr (r x).2 = some (ds x,(r x).2) from hr x]
 rfl
theorem Xs {o':α → Option β} {r':α → β → List D × List Sl} (ha:VN fa δ o r) (hr:∀ x,AN fr (r x).2 (o' x) (r' x)):AN (Ji fa fr) δ (o.bind fun x=>(o' x).map fun y=>(x,y)) (fun p=>((r p.1).1 :: (r' p.1 p.2).1,(r' p.1 p.2).2)):=fun p hp=>by
 obtain ⟨x,hx,hp⟩:=Y3 hp
 obtain ⟨y,hy,rfl⟩:=Kv hp
 unfold Ji
 rw [ha x hx,Q1,hr x y hy]
 rfl
variable {g:D → D → Option D}
theorem Vt (ha:VP fa δ a) (hb:VP fb δ b) (hz:g a b = some z):VP (f2 g fa fb) δ z:=by
 unfold VP f2
 rw [show fa δ = some (a,δ) from ha,Q1,show fb δ = some (b,δ) from hb,Q1,hz]
 rfl
theorem Xk {q:Option β} {e:β → D} (ha:VP fa δ a) (hb:VP fb δ b) (hz:∀ v,q = some v → g a b = some (e v)):VN (f2 g fa fb) δ q (fun v=>(e v,δ)):=fun v hv=>by
 unfold f2
 rw [show fa δ = some (a,δ) from ha,Q1,show fb δ = some (b,δ) from hb,Q1,hz v hv]
 rfl
theorem Q9G:f2 g fa fb δ = fA (g2 g) (Ji fa (Ji fb Jt)) δ:=by
 unfold f2 fA Ji Jt
 cases fa δ with
 | none=>rfl
 | some p =>
  simp only [Q1]
  cases fb p.2 with
  | none=>rfl
  | some q=>rfl
variable {G:List D → Option D}
theorem Zh {q:Option β} {e:β → D} (h:AP fr δ ds) (hz:∀ v,q = some v → G ds = some (e v)):VN (fA G fr) δ q (fun v=>(e v,δ)):=fun v hv=>by
 unfold fA
 rw [show fr δ = some (ds,δ) from h,Q1,hz v hv]
 rfl
theorem Q60 {r:α → List D × List Sl} {z:α → D} (h:AN fr δ o r) (hz:∀ x,G (r x).1 = some (z x)):VN (fA G fr) δ o (fun x=>(z x,(r x).2)):=fun x hx=>by
 unfold fA
 rw [h x hx,Q1,hz x]
 rfl
theorem Q9W {r:α → List D × List Sl} {q:α → Option β} {e:α → β → D} (h:AN fr δ o r) (hz:∀ x v,q x = some v → G (r x).1 = some (e x v)):VN (fA G fr) δ (o.bind fun x=>(q x).map fun v=>(x,v)) (fun p=>(e p.1 p.2,(r p.1).2)):=fun p hp=>by
 obtain ⟨x,hx,hp⟩:=Y3 hp
 obtain ⟨v,hv,rfl⟩:=Kv hp
 unfold fA
 rw [h x hx,Q1,hz x v hv]
 rfl
theorem Ks {r:α → List D × List Sl} {z:α → D} (h:AN (Ji fa (Ji fb Jt)) δ o r) (hz:∀ x,g2 g (r x).1 = some (z x)):VN (f2 g fa fb) δ o (fun x=>(z x,(r x).2)):=fun x hx=>Q9G.trans (Q60 h hz x hx)
theorem Y2 {r:α → List D × List Sl} {q:α → Option β} {e:α → β → D} (h:AN (Ji fa (Ji fb Jt)) δ o r) (hz:∀ x v,q x = some v → g2 g (r x).1 = some (e x v)):VN (f2 g fa fb) δ (o.bind fun x=>(q x).map fun v=>(x,v)) (fun p=>(e p.1 p.2,(r p.1).2)):=fun x hx=>Q9G.trans (Q9W h hz x hx)
variable {u:D → Option D}
theorem Kd (ha:VP fa δ a) (hz:u a = some z):VP (f1 u fa) δ z:=by
 unfold VP f1
 rw [show fa δ = some (a,δ) from ha,Q1,hz]
 rfl
theorem Q7Z {q:Option β} {e:β → D} (ha:VP fa δ a) (hz:∀ v,q = some v → u a = some (e v)):VN (f1 u fa) δ q (fun v=>(e v,δ)):=fun v hv=>by
 unfold f1
 rw [show fa δ = some (a,δ) from ha,Q1,hz v hv]
 rfl
theorem Q9i {z:α → D} (ha:VN fa δ o r) (hz:∀ x,u (r x).1 = some (z x)):VN (f1 u fa) δ o (fun x=>(z x,(r x).2)):=fun x hx=>by
 unfold f1
 rw [ha x hx,Q1,hz x]
 rfl
theorem X1 (h:AP fr δ ds) (hl:decide (ds.length ≤ 1000) = true:=by rfl):VP (Xo fr) δ (.tuple ds):=by
 unfold VP Xo
 rw [show fr δ = some (ds,δ) from h,Q1]
 exact if_pos (Qj (of_decide_eq_true hl) (by rw [sizeLine_eq]; omega))
theorem Q4m {r:α → List D × List Sl} (h:AN fr δ o r) (hl:∀ x,decide ((r x).1.length ≤ 1000) = true:=by intro _; rfl):VN (Xo fr) δ o (fun x=>(.tuple (r x).1,(r x).2)):=fun x hx=>by
 unfold Xo
 rw [h x hx,Q1]
 exact if_pos (Qj (of_decide_eq_true (hl x)) (by rw [sizeLine_eq]; omega))
theorem Yv (h:AP fr δ ds) (hl:decide (ds.length ≤ 1000) = true:=by rfl):VP (Vi fr) δ (.list ds):=by
 unfold VP Vi
 rw [show fr δ = some (ds,δ) from h,Q1]
 exact if_pos (Qj (of_decide_eq_true hl) (by rw [sizeLine_eq]; omega))
theorem Q1I {r:α → List D × List Sl} (h:AN fr δ o r) (hl:∀ x,decide ((r x).1.length ≤ 1000) = true:=by intro _; rfl):VN (Vi fr) δ o (fun x=>(.list (r x).1,(r x).2)):=fun x hx=>by
 unfold Vi
 rw [h x hx,Q1]
 exact if_pos (Qj (of_decide_eq_true (hl x)) (by rw [sizeLine_eq]; omega))
theorem Zv {b:Bool} (h:VP f δ (.bool b)):TP (fun δ=>toB (f δ)) δ b:=by
 unfold TP
 show toB (f δ) = _
 rw [show f δ = some (.bool b,δ) from h]
 rfl
theorem Vy {b:α → Bool} (h:VN f δ o r) (hb:∀ x,(r x).1 = .bool (b x)):TN (fun δ=>toB (f δ)) δ o (fun x=>(b x,(r x).2)):=fun x hx=>by
 show toB (f δ) = _
 rw [h x hx,show r x = (.bool (b x),(r x).2) from by rw [← hb x]]
 rfl
variable {ga gb:Fb} {s t:Bool}
theorem Q0Y (h:TP ga δ s):TP (K3 ga) δ (!s):=by
 unfold TP K3
 rw [show ga δ = some (s,δ) from h]
 rfl
theorem Km {r:α → Bool × List Sl} (h:TN ga δ o r):TN (K3 ga) δ o (fun x=>(!(r x).1,(r x).2)):=fun x hx=>by
 unfold K3
 rw [h x hx]
 rfl
theorem Q9v (h:TP ga δ s) (k:TP gb δ t):TP (gOr ga gb) δ (s || t):=by
 unfold TP gOr
 rw [show ga δ = some (s,δ) from h]
 cases s
 ·exact k
 ·rfl
theorem K1 {m:α → β} {r:α → Bool × List Sl} {r':β → Bool × List Sl} (h:TN ga δ o r) (e:∀ x,r x = r' (m x)):TN ga δ (o.map m) r':=fun y hy=>by
 obtain ⟨x,hx,rfl⟩:=Kv hy
 exact (h x hx).trans (by rw [e])
theorem Q0x {r r':α → Bool × List Sl} (h:TN ga δ o r) (e:∀ x,r x = r' x):TN ga δ o r':=fun x hx=>(h x hx).trans (by rw [e])
theorem Q2U {o:Option β} {r:β → Bool × List Sl} {v:β} (h:TP ga δ s) (k:TN gb δ o r) (hv:r v = (false,δ)):TN (Q29 ga gb) δ (if s then o else some v) r:=fun x hx=>by
 unfold Q29
 rw [show ga δ = some (s,δ) from h]
 cases s
 ·cases hx; exact congrArg some hv.symm
 ·exact k x hx
theorem Q07 {o:Option β} {r:β → Bool × List Sl} {v:β} (h:TP ga δ s) (k:TN gb δ o r) (hv:r v = (true,δ)):TN (gOr ga gb) δ (if s then some v else o) r:=fun x hx=>by
 unfold gOr
 rw [show ga δ = some (s,δ) from h]
 cases s
 ·exact k x hx
 ·cases hx; exact congrArg some hv.symm
theorem Q7K {r:α → Bool × List Sl} {o':α → Option β} {r':β → Bool × List Sl} {b:α → Bool} {v:α → β} (h:TN ga δ o r) (hb:∀ x,(r x).1 = b x) (k:∀ x,TN gb (r x).2 (o' x) r') (hv:∀ x,r' (v x) = (false,(r x).2)):TN (Q29 ga gb) δ (o.bind fun x=>if b x then o' x else some (v x)) r':=fun y hy=>by
 obtain ⟨x,hx,hy⟩:=Y3 hy
 unfold Q29
 rw [h x hx,Q1,hb x]
 cases e:b x with
 | false=>rw [e] at hy; cases hy; exact congrArg some (hv x).symm
 | true=>rw [e] at hy; exact k x y hy
theorem Q0T {r:α → Bool × List Sl} {o':α → Option β} {r':β → Bool × List Sl} {b:α → Bool} {v:α → β} (h:TN ga δ o r) (hb:∀ x,(r x).1 = b x) (k:∀ x,TN gb (r x).2 (o' x) r') (hv:∀ x,r' (v x) = (true,(r x).2)):TN (gOr ga gb) δ (o.bind fun x=>if b x then some (v x) else o' x) r':=fun y hy=>by
 obtain ⟨x,hx,hy⟩:=Y3 hy
 unfold gOr
 rw [h x hx,Q1,hb x]
 cases e:b x with
 | true=>rw [e] at hy; cases hy; exact congrArg some (hv x).symm
 | false=>rw [e] at hy; exact k x y hy
theorem Q6n (h:VP fa δ (.bool s)) (k:VP fb δ (.bool t)):VP (Q2X fa fb) δ (.bool (s && t)):=by
 unfold VP Q2X
 rw [show fa δ = some (.bool s,δ) from h]
 cases s
 ·rfl
 ·exact k
theorem Q6r (h:VP fa δ (.bool s)):VP (Q5a fa) δ (.bool (!s)):=by
 unfold VP Q5a
 rw [show fa δ = some (.bool s,δ) from h]
 rfl
theorem Q74 {o:Option β} {r:β → D × List Sl} {v:β} (h:VP fa δ (.bool s)) (k:VN fb δ o r) (hv:r v = (.bool false,δ)):VN (Q2X fa fb) δ (if s then o else some v) r:=fun x hx=>by
 unfold Q2X
 rw [show fa δ = some (.bool s,δ) from h]
 cases s
 ·cases hx; exact congrArg some hv.symm
 ·exact k x hx
variable {h1 h2:D → D → Option D}
end
end Z
namespace Z
open PySem PySem.Spec PyProof.Rows L2
section
variable {α β γ:Type} {δ δ1:List Sl} {d a b c z:D} {fa fb fc f:Fe} {o:Option α} {r:α → D × List Sl}
variable {fk:Fk} {as:List Ar}
theorem X8:KP Yb δ []:=rfl
theorem X7 (ha:VP fa δ a) (hr:KP fk δ as):KP (X4 fa fk) δ (.d a :: as):=by
 unfold KP X4
 rw [show fa δ = some (a,δ) from ha,Q1,show fk δ = some (as,δ) from hr]
 rfl
theorem Z9 (i:Nat) (hr:KP fk δ as) (h:Q2g i δ = true:=by rfl):KP (kIo i fk) δ (.io i :: as):=by
 unfold KP kIo
 rw [if_pos h,show fk δ = some (as,δ) from hr]
 rfl
theorem Q9I {r:α → List Ar × List Sl} (ha:VP fa δ a) (hr:KN fk δ o r):KN (X4 fa fk) δ o (fun x=>(.d a :: (r x).1,(r x).2)):=fun x hx=>by
 unfold X4
 rw [show fa δ = some (a,δ) from ha,Q1,hr x hx]
 rfl
theorem Q8Z (i:Nat) {r:α → List Ar × List Sl} (hr:KN fk δ o r) (h:Q2g i δ = true:=by rfl):KN (kIo i fk) δ o (fun x=>(.io i :: (r x).1,(r x).2)):=fun x hx=>by
 unfold kIo
 rw [if_pos h,hr x hx]
 rfl
theorem Q4M {ds:α → List Ar} (ha:VN fa δ o r) (hr:∀ x,KP fk (r x).2 (ds x)):KN (X4 fa fk) δ o (fun x=>(.d (r x).1 :: ds x,(r x).2)):=fun x hx=>by
 unfold X4
 rw [ha x hx,Q1,show fk (r x).2 = some (ds x,(r x).2) from hr x]
 rfl
theorem Qa5 {o':α → Option β} {r':α → β → List Ar × List Sl} (ha:VN fa δ o r) (hr:∀ x,KN fk (r x).2 (o' x) (r' x)):KN (X4 fa fk) δ (o.bind fun x=>(o' x).map fun y=>(x,y)) (fun p=>(.d (r p.1).1 :: (r' p.1 p.2).1,(r' p.1 p.2).2)):=fun p hp=>by
 obtain ⟨x,hx,hp⟩:=Y3 hp
 obtain ⟨y,hy,rfl⟩:=Kv hp
 unfold X4
 rw [ha x hx,Q1,hr x y hy]
 rfl
variable {φ:Fe} {R:List Nat}
theorem X3 {q:Option β} {dv:β → D} {outs:β → List Sl} (h:KP fk δ as) (hφ:∀ v,q = some v → φ (as.map (Q3t δ)) = some (dv v,outs v)) (ok:Zx R δ as = true:=by rfl) (ho:∀ v,(Vl R as (outs v) && (R.isEmpty || (true && noL (dv v)))) = true:=by intro _; rfl):VN (Xc R true φ fk) δ q (fun v=>(dv v,Ym as (outs v) δ)):=fun v hv=>by
 unfold Xc
 rw [show fk δ = some (as,δ) from h,Q1,if_pos ok,hφ v hv,Q1,if_pos (ho v)]
theorem Q0C {r:α → List Ar × List Sl} {q:α → Option β} {dv:α → β → D} {outs:α → β → List Sl} (h:KN fk δ o r) (hφ:∀ x v,q x = some v → φ ((r x).1.map (Q3t (r x).2)) = some (dv x v,outs x v)) (ok:∀ x,Zx R (r x).2 (r x).1 = true:=by intro _; rfl) (ho:∀ x v,(Vl R (r x).1 (outs x v) && (R.isEmpty || (true && noL (dv x v)))) = true:=by intro _ _; rfl):VN (Xc R true φ fk) δ (o.bind fun x=>(q x).map fun v=>(x,v)) (fun p=>(dv p.1 p.2,Ym (r p.1).1 (outs p.1 p.2) (r p.1).2)):=fun p hp=>by
 obtain ⟨x,hx,hp⟩:=Y3 hp
 obtain ⟨v,hv,rfl⟩:=Kv hp
 unfold Xc
 rw [h x hx,Q1,if_pos (ok x),hφ x v hv,Q1,if_pos (ho x v)]
variable {fl fh:Fo} {lo hi:Option Int} {g3:D → Option Int → Option Int → Option D}
theorem Ya:OP Vr δ none:=rfl
theorem Yc {i:Int} (h:VP fa δ (.int i)):OP (Vf fa) δ (some i):=by
 unfold OP Vf
 rw [show fa δ = some (.int i,δ) from h]
 rfl
theorem Wg {q:Option β} {e:β → D} (ha:VP fa δ a) (hl:OP fl δ lo) (hh:OP fh δ hi) (hz:∀ v,q = some v → g3 a lo hi = some (e v)):VN (f3 g3 fa fl fh) δ q (fun v=>(e v,δ)):=fun v hv=>by
 unfold f3
 rw [show fa δ = some (a,δ) from ha,Q1,show fl δ = some (lo,δ) from hl,Q1,show fh δ = some (hi,δ) from hh,Q1,hz v hv]
 rfl
variable {fi fr:Fs} {ds:List D}
theorem Q9t (h:VP fa δ a) (hz:V9 a = some ds):AP (fIt fa) δ ds:=by
 unfold AP fIt
 rw [show fa δ = some (a,δ) from h,Q1,hz]
 rfl
theorem Q9T {z:α → List D} (h:VN fa δ o r) (hz:∀ x,V9 (r x).1 = some (z x)):AN (fIt fa) δ o (fun x=>(z x,(r x).2)):=fun x hx=>by
 unfold fIt
 rw [h x hx,Q1,hz x]
 rfl
theorem Q5N {q:Option β} {z:β → List D} (h:VP fa δ a) (hz:∀ v,q = some v → V9 a = some (z v)):AN (fIt fa) δ q (fun v=>(z v,δ)):=fun v hv=>by
 unfold fIt
 rw [show fa δ = some (a,δ) from h,Q1,hz v hv]
 rfl
def Q0d (lo:Int) (n:Nat):List Int:=(Qy n).map fun i=>lo + (i:Nat)
theorem Q4p (lo:Int) (n:Nat):Q2b lo n = (Q0d lo n).map Q0:=by
 unfold Q2b Q0d
 rw [List.map_map]
 rfl
def Q7G (j:Int):Option (List Int):=if Vd j then some (Q0d 0 j.toNat) else none
theorem Q0p {j:Int} (h:AP fr δ [.int j]) (hj:Vd j = true:=by decide):AP (Q0j fr) δ ((Q0d 0 j.toNat).map Q0):=by
 unfold AP Q0j
 rw [show fr δ = some ([.int j],δ) from h,Q1]
 show (if Vd j = true then some (Q2b 0 j.toNat,δ) else none) = _
 rw [if_pos hj,Q4p]
theorem Q6v {r:α → List D × List Sl} {j:α → Int} (h:AN fr δ o r) (hr:∀ x,(r x).1 = [.int (j x)]):AN (Q0j fr) δ (o.bind fun x=>(Q7G (j x)).map fun xs=>(x,xs)) (fun p=>(p.2.map Q0,(r p.1).2)):=fun p hp=>by
 obtain ⟨x,hx,hp⟩:=Y3 hp
 obtain ⟨v,hv,rfl⟩:=Kv hp
 unfold Q7G at hv
 unfold Q0j
 rw [h x hx,Q1]
 have e:r x = ([.int (j x)],(r x).2):=by rw [← hr x]
 rw [e]
 show (if Vd (j x) = true then some (Q2b 0 (j x).toNat,(r x).2) else none) = _
 split at hv
 ·rename_i c; cases hv; rw [if_pos c,Q4p]
 ·cases hv
theorem Wh (i:Nat) (h:decide (i < δ.length) = true:=by rfl):Xl (.nm i) d δ = some (δ.set i (.fz d)):=by
 unfold Xl
 exact if_pos (of_decide_eq_true h)
theorem Q4N:Xi .nil [] δ = some δ:=by unfold Xi; rfl
theorem Q0N {T U:Tt} {δ2:List Sl} (h:Xl T d δ = some δ1) (k:Xi U ds δ1 = some δ2):Xi (.cons T U) (d :: ds) δ = some δ2:=by
 unfold Xi
 rw [h]
 exact k
theorem Q6d {T U:Tt} (h:Xi (.cons T U) ds δ = some δ1):Xl (.cons T U) (.tuple ds) δ = some δ1:=by
 unfold Xl
 exact h
variable {T:Tt} {vs:List Nat} {cc:Fb} {fe:Fe} {ι τ σ:Type} {e:ι → D} {e':τ → D} {xs:List ι}
def Q20 (c:ι → σ → Option (Bool × σ)) (f:ι → σ → Option (τ × σ)):List ι → σ → Option (List τ × σ)
 | [],s=>some ([],s)
 | x :: xs,s=>(c x s).bind fun p=>match p.1 with
  | true=>(f x p.2).bind fun q=>(Q20 c f xs q.2).map fun z=>(q.1 :: z.1,z.2)
  | false=>Q20 c f xs p.2
def Q2G (f:ι → Option τ):List ι → Option (List τ)
 | []=>some []
 | x :: xs=>(f x).bind fun y=>(Q2G f xs).map fun ys=>y :: ys
def Z4 (c:ι → Option Bool) (f:ι → Option τ):List ι → Option (List τ)
 | []=>some []
 | x :: xs=>(c x).bind fun b=>match b with
  | true=>(f x).bind fun y=>(Z4 c f xs).map fun ys=>y :: ys
  | false=>Z4 c f xs
def Q1k (f:ι → σ → Option (τ × σ)):List ι → σ → Option (List τ × σ)
 | [],s=>some ([],s)
 | x :: xs,s=>(f x s).bind fun q=>(Q1k f xs q.2).map fun z=>(q.1 :: z.1,z.2)
def K0 (xs:List ι) (o:Option τ):Option τ:=if xs.length ≤ sizeLine then o else none
theorem Q4S {cb:ι → Bool} {fb:ι → τ} {δb:ι → List Sl} (hT:∀ x,Xl T (e x) δ = some (δb x)) (hc:∀ x,TP cc (δb x) (cb x)) (hf:∀ x,VP fe (δb x) (e' (fb x))) (hw:∀ x,Xm vs (δb x) = δ):∀ xs:List ι,V6 T vs cc fe (xs.map e) δ = some (((xs.filter cb).map fb).map e',δ)
 | []=>rfl
 | x :: xs=>by
  rw [Qp]
  unfold V6
  rw [hT x,Q1,show cc (δb x) = some (cb x,δb x) from hc x,Q1,List.filter_cons]
  cases cb x
  ·show V6 T vs cc fe (xs.map e) (Xm vs (δb x)) = _
   rw [hw x]
   exact Q4S hT hc hf hw xs
  ·show (fe (δb x)).bind _ = _
   rw [show fe (δb x) = some (e' (fb x),δb x) from hf x,Q1,hw x,Q4S hT hc hf hw xs]
   rfl
theorem Q2x {st:σ → List Sl} {cN:ι → σ → Option (Bool × σ)} {fN:ι → σ → Option (τ × σ)} {δb δc:ι → σ → List Sl} (hT:∀ x s,Xl T (e x) (st s) = some (δb x s)) (hc:∀ x s,TN cc (δb x s) (cN x s) (fun p=>(p.1,δc x p.2))) (hf:∀ x s,VN fe (δc x s) (fN x s) (fun q=>(e' q.1,δc x q.2))) (hw:∀ x s,Xm vs (δc x s) = st s):∀ (xs:List ι) (s:σ) (z:List τ × σ),Q20 cN fN xs s = some z → V6 T vs cc fe (xs.map e) (st s) = some (z.1.map e',st z.2)
 | [],s,z,h=>by cases h; rfl
 | x :: xs,s,z,h=>by
  unfold Q20 at h
  obtain ⟨p,hp,h⟩:=Y3 h
  rw [Qp]
  unfold V6
  rw [hT x s,Q1,hc x s p hp,Q1]
  obtain ⟨b,s1⟩:=p
  cases b
  ·show V6 T vs cc fe (xs.map e) (Xm vs (δc x s1)) = _
   rw [hw]
   exact Q2x hT hc hf hw xs s1 z h
  ·obtain ⟨q,hq,h⟩:=Y3 h
   obtain ⟨w,hw2,rfl⟩:=Kv h
   show (fe (δc x s1)).bind _ = _
   rw [hf x s1 q hq,Q1]
   show (V6 T vs cc fe (xs.map e) (Xm vs (δc x q.2))).map _ = _
   rw [hw,Q2x hT hc hf hw xs q.2 w hw2]
   rfl
theorem Q8C {st:σ → List Sl} {s0:σ} {cN:ι → σ → Option (Bool × σ)} {fN:ι → σ → Option (τ × σ)} {δb δc:ι → σ → List Sl} (hi:AP fi δ (xs.map e)) (hT:∀ x s,Xl T (e x) (st s) = some (δb x s)) (hc:∀ x s,TN cc (δb x s) (cN x s) (fun p=>(p.1,δc x p.2))) (hf:∀ x s,VN fe (δc x s) (fN x s) (fun q=>(e' q.1,δc x q.2))) (h0:δ = st s0:=by rfl) (hw:∀ x s,Xm vs (δc x s) = st s:=by intro _ _; rfl) (hn:noS vs δ = true:=by rfl):VN (fLc T vs fi cc fe) δ (K0 xs (Q20 cN fN xs s0)) (fun z=>(eLi e' z.1,st z.2)):=fun z hz=>by
 unfold K0 at hz
 split at hz
 ·rename_i c
  unfold fLc
  rw [show fi δ = some (xs.map e,δ) from hi,Q1,if_pos (by rw [hn,Qc,decide_eq_true c]; rfl)]
  subst h0
  rw [Q2x hT hc hf hw xs s0 z hz]
  rfl
 ·cases hz
theorem Q2f {fN:ι → σ → Option (τ × σ)}:∀ (xs:List ι) (s:σ),Q20 (fun _ s=>some (true,s)) fN xs s = Q1k fN xs s
 | [],s=>rfl
 | x :: xs,s=>by
  unfold Q20 Q1k
  simp only [Q1]
  exact congrArg _ (funext fun q=>by rw [Q2f])
theorem Q1m {st:σ → List Sl} {s0:σ} {fN:ι → σ → Option (τ × σ)} {δb:ι → σ → List Sl} (hi:AP fi δ (xs.map e)) (hT:∀ x s,Xl T (e x) (st s) = some (δb x s)) (hf:∀ x s,VN fe (δb x s) (fN x s) (fun q=>(e' q.1,δb x q.2))) (h0:δ = st s0:=by rfl) (hw:∀ x s,Xm vs (δb x s) = st s:=by intro _ _; rfl) (hn:noS vs δ = true:=by rfl):VN (fLc T vs fi Q2a fe) δ (K0 xs (Q1k fN xs s0)) (fun z=>(eLi e' z.1,st z.2)):=by
 rw [← Q2f]
 exact Q8C (cc:=Q2a) (δb:=δb) (δc:=δb) hi hT (fun x s p hp=>by cases hp; rfl) hf h0 hw hn
theorem Q2V {cN:ι → Option Bool} {fN:ι → Option τ} {δb:ι → List Sl} (hT:∀ x,Xl T (e x) δ = some (δb x)) (hc:∀ x,TN cc (δb x) (cN x) (fun p=>(p,δb x))) (hf:∀ x,VN fe (δb x) (fN x) (fun q=>(e' q,δb x))) (hw:∀ x,Xm vs (δb x) = δ):∀ (xs:List ι) (z:List τ),Z4 cN fN xs = some z → V6 T vs cc fe (xs.map e) δ = some (z.map e',δ)
 | [],z,h=>by cases h; rfl
 | x :: xs,z,h=>by
  unfold Z4 at h
  obtain ⟨b,hb,h⟩:=Y3 h
  rw [Qp]
  unfold V6
  rw [hT x,Q1,hc x b hb,Q1]
  cases b
  ·show V6 T vs cc fe (xs.map e) (Xm vs (δb x)) = _
   rw [hw]
   exact Q2V hT hc hf hw xs z h
  ·obtain ⟨q,hq,h⟩:=Y3 h
   obtain ⟨w,hw2,rfl⟩:=Kv h
   show (fe (δb x)).bind _ = _
   rw [hf x q hq,Q1]
   show (V6 T vs cc fe (xs.map e) (Xm vs (δb x))).map _ = _
   rw [hw,Q2V hT hc hf hw xs w hw2]
   rfl
theorem Q4i {cN:ι → Option Bool} {fN:ι → Option τ} {δb:ι → List Sl} (hi:AP fi δ (xs.map e)) (hT:∀ x,Xl T (e x) δ = some (δb x)) (hc:∀ x,TN cc (δb x) (cN x) (fun p=>(p,δb x))) (hf:∀ x,VN fe (δb x) (fN x) (fun q=>(e' q,δb x))) (hw:∀ x,Xm vs (δb x) = δ:=by intro _; rfl) (hn:noS vs δ = true:=by rfl):VN (fLc T vs fi cc fe) δ (K0 xs (Z4 cN fN xs)) (fun z=>(eLi e' z,δ)):=fun z hz=>by
 unfold K0 at hz
 split at hz
 ·rename_i c
  unfold fLc
  rw [show fi δ = some (xs.map e,δ) from hi,Q1,if_pos (by rw [hn,Qc,decide_eq_true c]; rfl),Q2V hT hc hf hw xs z hz]
  rfl
 ·cases hz
theorem Q3T {fN:ι → Option τ}:∀ (xs:List ι),Z4 (fun _=>some true) fN xs = Q2G fN xs
 | []=>rfl
 | x :: xs=>by
  unfold Z4 Q2G
  simp only [Q1]
  exact congrArg _ (funext fun q=>by rw [Q3T])
theorem Q7Y {fN:ι → Option τ} {δb:ι → List Sl} (hi:AP fi δ (xs.map e)) (hT:∀ x,Xl T (e x) δ = some (δb x)) (hf:∀ x,VN fe (δb x) (fN x) (fun q=>(e' q,δb x))) (hw:∀ x,Xm vs (δb x) = δ:=by intro _; rfl) (hn:noS vs δ = true:=by rfl):VN (fLc T vs fi Q2a fe) δ (K0 xs (Q2G fN xs)) (fun z=>(eLi e' z,δ)):=by
 rw [← Q3T]
 exact Q4i (cc:=Q2a) (δb:=δb) hi hT (fun x p hp=>by cases hp; rfl) hf hw hn
theorem Q39 {r:α → List D × List Sl} {o':α → Option β} {r':α → β → D × List Sl} (hi:AN fi δ o r) (h:∀ x,VN (fLc T vs (fun δ=>some ((r x).1,δ)) cc fe) (r x).2 (o' x) (r' x)):VN (fLc T vs fi cc fe) δ (o.bind fun x=>(o' x).map fun y=>(x,y)) (fun p=>r' p.1 p.2):=fun p hp=>by
 obtain ⟨x,hx,hp⟩:=Y3 hp
 obtain ⟨y,hy,rfl⟩:=Kv hp
 have:=h x y hy
 unfold fLc at this ⊢
 rw [Q1] at this
 rw [hi x hx,Q1]
 exact this
theorem Q2o:AP (fun δ=>some (ds,δ)) δ ds:=rfl
end
end Z
namespace Z
open PySem PySem.Spec PyProof.Rows L2
abbrev Fg:=List Sl → Option Out
inductive Oc where
 | nx (δ:List Sl)
 | lp (δ:List Sl)
 | rt (d:D) (outs:List Sl)
def OcR (as:List Sl → Option (List Sl)) (x:Option Out):Oc → Prop
 | .nx δ'=>x = some (.nx δ')
 | .lp δ'=>x = some (.nx δ') ∨ x = some (.ct δ')
 | .rt d outs=>∃ δ',x = some (.rt d δ') ∧ as δ' = some outs
def SB {α:Type} (as:List Sl → Option (List Sl)) (g:Fg) (δ:List Sl) (o:Option α) (r:α → Oc):Prop:=∀ a,o = some a → OcR as (g δ) (r a)
section
variable {α β γ σ ρ:Type} {as:List Sl → Option (List Sl)} {δ δ1:List Sl} {d a b c z:D} {fa fb fc f:Fe} {o:Option β} {g g' ga gb:Fg} {r:β → Oc} {oe:Option α} {re:α → D × List Sl} {ok:α → Option β}
theorem W4 (h:g δ = some (.nx δ1)):Jp g g' δ = g' δ1:=by
 unfold Jp
 rw [h]
 rfl
theorem Q8O {i:Nat} (h:VP f δ d) (k:SB as g' (δ.set i (.fz d)) o r) (hi:decide (i < δ.length) = true:=by rfl):SB as (Jp (Yr i f) g') δ o r:=fun v hv=>by
 rw [W4 (δ1:=δ.set i (.fz d))]
 ·exact k v hv
 ·unfold Yr
  rw [show f δ = some (d,δ) from h]
  exact if_pos (of_decide_eq_true hi)
theorem Q2A {i:Nat} {e:α → D} {v:α} (h:VP f δ (e v)) (k:∀ x,SB as g' (δ.set i (.fz (e x))) (ok x) r) (hi:decide (i < δ.length) = true:=by rfl):SB as (Jp (Yr i f) g') δ (Q0a v ok) r:=Q8O h (k v) hi
theorem Yp {i:Nat} (h:VN f δ oe re) (k:∀ x,SB as g' ((re x).2.set i (.fz (re x).1)) (ok x) r) (hi:∀ x,decide (i < (re x).2.length) = true:=by intro _; rfl):SB as (Jp (Yr i f) g') δ (oe.bind ok) r:=fun v hv=>by
 obtain ⟨x,hx,hv⟩:=Y3 hv
 rw [W4 (δ1:=(re x).2.set i (.fz (re x).1))]
 ·exact k x v hv
 ·unfold Yr
  rw [h x hx]
  exact if_pos (of_decide_eq_true (hi x))
theorem Q2H {i:Nat} {e:γ → D} {m:α → γ} {ok:α → γ → Option β} (h:VN f δ oe re) (hm:∀ x,(re x).1 = e (m x)) (k:∀ x y,SB as g' ((re x).2.set i (.fz (e y))) (ok x y) r) (hi:∀ x,decide (i < (re x).2.length) = true:=by intro _; rfl):SB as (Jp (Yr i f) g') δ (oe.bind fun x=>Q0a (m x) fun y=>ok x y) r :=
 Yp h (fun x=>by rw [hm x]; exact k x (m x)) hi
theorem Q7i {i:Nat} (h:VN f δ oe re) (k:∀ x,SB as g' ((re x).2.set i (.ow (re x).1)) (ok x) r) (hi:∀ x,decide (i < (re x).2.length) = true:=by intro _; rfl):SB as (Jp (Q3Q i f) g') δ (oe.bind ok) r:=fun v hv=>by
 obtain ⟨x,hx,hv⟩:=Y3 hv
 rw [W4 (δ1:=(re x).2.set i (.ow (re x).1))]
 ·exact k x v hv
 ·unfold Q3Q
  rw [h x hx]
  exact if_pos (of_decide_eq_true (hi x))
variable {T:Tt} {fs:Fs} {ds:List D}
theorem Q4T {i j:Nat} (h:AP fs δ [a,b]) (k:SB as g' ((δ.set i (.fz a)).set j (.fz b)) o r) (hi:decide (i < δ.length ∧ j < δ.length) = true:=by rfl):SB as (Jp (Q0M i j fs) g') δ o r:=fun v hv=>by
 rw [W4 (δ1:=(δ.set i (.fz a)).set j (.fz b))]
 ·exact k v hv
 ·unfold Q0M
  rw [show fs δ = some ([a,b],δ) from h]
  exact if_pos (of_decide_eq_true hi)
theorem Q5v {i j:Nat} {rs:α → List D × List Sl} {a b:α → D} (h:AN fs δ oe rs) (hr:∀ x,(rs x).1 = [a x,b x]) (k:∀ x,SB as g' (((rs x).2.set i (.fz (a x))).set j (.fz (b x))) (ok x) r) (hi:∀ x,decide (i < (rs x).2.length ∧ j < (rs x).2.length) = true:=by intro _; rfl):SB as (Jp (Q0M i j fs) g') δ (oe.bind ok) r:=fun v hv=>by
 obtain ⟨x,hx,hv⟩:=Y3 hv
 rw [W4 (δ1:=((rs x).2.set i (.fz (a x))).set j (.fz (b x)))]
 ·exact k x v hv
 ·unfold Q0M
  rw [h x hx,show rs x = ([a x,b x],(rs x).2) from by rw [← hr x]]
  exact if_pos (of_decide_eq_true (hi x))
variable {cc:Fb} {s:Bool} {oa ob:Option β}
theorem Q3w (hc:TP cc δ s) (ha:SB as (Jp ga g') δ oa r) (hb:SB as (Jp gb g') δ ob r):SB as (Jp (sIf cc ga gb) g') δ (if s then oa else ob) r:=fun v hv=>by
 have e:Jp (sIf cc ga gb) g' δ = if s then Jp ga g' δ else Jp gb g' δ:=by
  unfold Jp sIf
  rw [show cc δ = some (s,δ) from hc]
  cases s <;> rfl
 rw [e]
 cases s
 ·exact hb v hv
 ·exact ha v hv
theorem Vg {oc:Option α} {rc:α → Bool × List Sl} {bb:α → Bool} {oa ob:α → Option β} (hc:TN cc δ oc rc) (hb:∀ x,(rc x).1 = bb x) (ha:∀ x,SB as (Jp ga g') (rc x).2 (oa x) r) (hb2:∀ x,SB as (Jp gb g') (rc x).2 (ob x) r):SB as (Jp (sIf cc ga gb) g') δ (oc.bind fun x=>if bb x then oa x else ob x) r:=fun v hv=>by
 obtain ⟨x,hx,hv⟩:=Y3 hv
 have e:Jp (sIf cc ga gb) g' δ = if bb x then Jp ga g' (rc x).2 else Jp gb g' (rc x).2:=by
  unfold Jp sIf
  rw [hc x hx,Q1,hb x]
  cases bb x <;> rfl
 rw [e]
 cases e2:bb x with
 | false=>rw [e2] at hv; exact hb2 x v hv
 | true=>rw [e2] at hv; exact ha x v hv
theorem Q7a {st:σ → List Sl} {oi:Option σ} {ok:σ → Option β} (h:SB as g δ oi (fun s=>.nx (st s))) (k:∀ s,SB as g' (st s) (ok s) r):SB as (Jp g g') δ (oi.bind ok) r:=fun v hv=>by
 obtain ⟨x,hx,hv⟩:=Y3 hv
 rw [W4 (h x hx)]
 exact k x v hv
theorem Q7J {oc:Option α} {rc:α → Bool × List Sl} {bb:α → Bool} {oa ob:α → Option β} (hc:TN cc δ oc rc) (hb:∀ x,(rc x).1 = bb x) (ha:∀ x,SB as ga (rc x).2 (oa x) r) (hb2:∀ x,SB as gb (rc x).2 (ob x) r):SB as (sIf cc ga gb) δ (oc.bind fun x=>if bb x then oa x else ob x) r:=fun v hv=>by
 obtain ⟨x,hx,hv⟩:=Y3 hv
 have e:sIf cc ga gb δ = if bb x then ga (rc x).2 else gb (rc x).2:=by
  unfold sIf
  rw [hc x hx,Q1,hb x]
  cases bb x <;> rfl
 rw [e]
 cases e2:bb x with
 | false=>rw [e2] at hv; exact hb2 x v hv
 | true=>rw [e2] at hv; exact ha x v hv
theorem Q4l {g1 g2 g3:Fg}:Jp (Jp g1 g2) g3 δ = Jp g1 (Jp g2 g3) δ:=by
 unfold Jp
 cases g1 δ with
 | none=>rfl
 | some o=>cases o <;> rfl
theorem X5 {g1 g2 g3:Fg} (h:SB as (Jp g1 (Jp g2 g3)) δ o r):SB as (Jp (Jp g1 g2) g3) δ o r:=fun v hv=>by
 rw [Q4l]
 exact h v hv
theorem Jv {δ':List Sl} (h:SB as g δ' o r) (e:δ = δ':=by rfl):SB as g δ o r:=e ▸ h
theorem g2x {g:D → D → Option D} {o:Option D} (h:g a b = o):g2 g [a,b] = o:=h
theorem Xt (h:SB as g' δ o r):SB as (Jp Xf g') δ o r:=h
theorem Q3V {vs:List Nat} (h:SB as g' (Xm vs δ) o r):SB as (Jp (Z5 vs) g') δ o r:=h
theorem Q0X {vs:List Nat} (h:SB as (Jp g g') (Xm vs δ) o r):SB as (Jp (Q3s vs g) g') δ o r:=h
theorem Q6M {v:β} (h:r v = .nx δ):SB as Xf δ (some v) r:=fun w hw=>by cases hw; rw [h]; rfl
theorem Wc {v:β} {vs:List Nat} (h:r v = .lp (Xm vs δ)):SB as (Z5 vs) δ (some v) r:=fun w hw=>by cases hw; rw [h]; exact .inl rfl
theorem Yl {v:β} {outs:List Sl} (h:VP f δ d) (hr:r v = .rt d outs) (hm:as δ = some outs:=by rfl):SB as (Jp (Xu f) g') δ (some v) r:=fun w hw=>by
 cases hw
 rw [hr]
 refine ⟨δ,?_,hm⟩
 unfold Jp Xu
 rw [show f δ = some (d,δ) from h]
 rfl
theorem Yn {v:α → β} {outs:α → List Sl} (h:VN f δ oe re) (hr:∀ x,r (v x) = .rt (re x).1 (outs x)) (hm:∀ x,as (re x).2 = some (outs x):=by intro _; rfl):SB as (Jp (Xu f) g') δ (oe.bind fun x=>some (v x)) r:=fun w hw=>by
 obtain ⟨x,hx,hw⟩:=Y3 hw
 cases hw
 rw [hr]
 refine ⟨_,?_,hm x⟩
 unfold Jp Xu
 rw [h x hx]
 rfl
variable {ι:Type} {e:ι → D} {fi:Fs} {body:Fg} {xs:List ι}
def Q6E (step:ι → σ → Option σ):List ι → σ → Option σ
 | [],s=>some s
 | x :: xs,s=>(step x s).bind fun s'=>Q6E step xs s'
def Q0U (step:ι → σ → Option (σ ⊕ ρ)):List ι → σ → Option (σ ⊕ ρ)
 | [],s=>some (.inl s)
 | x :: xs,s=>(step x s).bind fun w=>match w with
  | .inl s'=>Q0U step xs s'
  | .inr v=>some (.inr v)
theorem Q44 {st:σ → List Sl} {step:ι → σ → Option σ} {δb:ι → σ → List Sl} (hT:∀ x s,Xl T (e x) (st s) = some (δb x s)) (hb:∀ x s,SB as body (δb x s) (step x s) (fun s'=>.lp (st s'))):∀ (xs:List ι) (s s':σ),Q6E step xs s = some s' → Q0I T body (xs.map e) (st s) = some (.nx (st s'))
 | [],s,s',h=>by cases h; rfl
 | x :: xs,s,s',h=>by
  unfold Q6E at h
  obtain ⟨s1,h1,h⟩:=Y3 h
  rw [Qp]
  unfold Q0I
  rw [hT x s,Q1]
  rcases hb x s s1 h1 with q | q
  ·rw [q]; exact Q44 hT hb xs s1 s' h
  ·rw [q]; exact Q44 hT hb xs s1 s' h
theorem Q8t {st:σ → List Sl} {s0:σ} {step:ι → σ → Option σ} {δb:ι → σ → List Sl} {ok:σ → Option β} (hi:AP fi δ (xs.map e)) (hT:∀ x s,Xl T (e x) (st s) = some (δb x s)) (hb:∀ x s,SB as body (δb x s) (step x s) (fun s'=>.lp (st s'))) (k:∀ s,SB as g' (st s) (ok s) r) (h0:δ = st s0:=by rfl):SB as (Jp (Kz T fi body) g') δ ((Q6E step xs s0).bind ok) r:=fun v hv=>by
 obtain ⟨s,hs,hv⟩:=Y3 hv
 rw [W4 (δ1:=st s)]
 ·exact k s v hv
 ·unfold Kz
  rw [show fi δ = some (xs.map e,δ) from hi]
  subst h0
  exact Q44 hT hb xs s0 s hs
theorem Q4H {rs:α → List D × List Sl} {ok:α → Option β} (hi:AN fi δ oe rs) (h:∀ x,SB as (Jp (Kz T (fun δ=>some ((rs x).1,δ)) body) g') (rs x).2 (ok x) r):SB as (Jp (Kz T fi body) g') δ (oe.bind ok) r:=fun v hv=>by
 obtain ⟨x,hx,hv⟩:=Y3 hv
 have:=h x v hv
 have e:Jp (Kz T fi body) g' δ = Jp (Kz T (fun δ=>some ((rs x).1,δ)) body) g' (rs x).2:=by
  unfold Jp Kz
  rw [hi x hx]
 rw [e]
 exact this
theorem Q4e {st:σ → List Sl} {step:ι → σ → Option (σ ⊕ ρ)} {δb:ι → σ → List Sl} {rv:ρ → D} {ro:ρ → List Sl} (hT:∀ x s,Xl T (e x) (st s) = some (δb x s)) (hb:∀ x s,SB as body (δb x s) (step x s) (Sum.elim (fun s'=>.lp (st s')) (fun v=>.rt (rv v) (ro v)))):∀ (xs:List ι) (s:σ) (w:σ ⊕ ρ),Q0U step xs s = some w → OcR as (Q0I T body (xs.map e) (st s)) (Sum.elim (fun s'=>.nx (st s')) (fun v=>.rt (rv v) (ro v)) w)
 | [],s,w,h=>by cases h; rfl
 | x :: xs,s,w,h=>by
  unfold Q0U at h
  obtain ⟨w1,h1,h⟩:=Y3 h
  rw [Qp]
  unfold Q0I
  rw [hT x s,Q1]
  cases w1 with
  | inl s1 =>
   rcases hb x s _ h1 with q | q
   ·rw [q]; exact Q4e hT hb xs s1 w h
   ·rw [q]; exact Q4e hT hb xs s1 w h
  | inr v =>
   cases h
   obtain ⟨δ',q,q2⟩:=hb x s _ h1
   rw [q]
   exact ⟨δ',rfl,q2⟩
theorem Q0A {st:σ → List Sl} {s0:σ} {step:ι → σ → Option (σ ⊕ ρ)} {δb:ι → σ → List Sl} {rv:ρ → D} {ro:ρ → List Sl} {ok:σ → Option β} {kr:ρ → Option β} (hi:AP fi δ (xs.map e)) (hT:∀ x s,Xl T (e x) (st s) = some (δb x s)) (hb:∀ x s,SB as body (δb x s) (step x s) (Sum.elim (fun s'=>.lp (st s')) (fun v=>.rt (rv v) (ro v)))) (hr:∀ v,∃ a,kr v = some a ∧ r a = .rt (rv v) (ro v)) (k:∀ s,SB as g' (st s) (ok s) r) (h0:δ = st s0:=by rfl):SB as (Jp (Kz T fi body) g') δ ((Q0U step xs s0).bind (Sum.elim ok kr)) r:=fun v hv=>by
 obtain ⟨w,hw,hv⟩:=Y3 hv
 subst h0
 have q:=Q4e hT hb xs s0 w hw
 have e1:Kz T fi body (st s0) = Q0I T body (xs.map e) (st s0):=by
  unfold Kz
  rw [show fi (st s0) = some (xs.map e,st s0) from hi]
  rfl
 cases w with
 | inl s =>
  rw [W4 (e1.trans q)]
  exact k s v hv
 | inr v1 =>
  obtain ⟨a,h1,h2⟩:=hr v1
  have:a = v:=by
   have h3:kr v1 = some v:=hv
   rw [h1] at h3
   exact J2.inj h3
  subst this
  rw [h2]
  obtain ⟨δ',q1,q2⟩:=q
  refine ⟨δ',?_,q2⟩
  unfold Jp
  rw [e1,q1]
  rfl
theorem Q0u {as:List Sl} {sg:List Bool} {m:Nat} {fr:Fr} {dv:β → D} {outs:β → List Sl} (h:SB (Y7 as) g (as ++ Qs (m - sg.length) .no) o (fun v=>.rt (dv v) (outs v))) (ha:Q09 sg as = true:=by rfl):∀ v,o = some v → fnF sg m fr g as = some (dv v,outs v):=fun v hv=>by
 obtain ⟨δ',h1,h2⟩:=h v hv
 unfold fnF
 rw [if_pos ha,h1]
 show (Y7 as δ').map _ = _
 rw [h2]
 rfl
end
end Z
namespace Z
open PySem PySem.Spec PyProof.Rows L2
structure Gd {α:Type} (e:α → D) (n:Nat):Prop where
 pl:∀ a,(e a).plain = true
 dp:∀ a,(e a).depth ≤ n
 eq:∀ a b,Jb (e a) (e b) = true ↔ a = b
theorem gI:Gd Q0 0:=⟨fun _=>rfl,fun _=>Q5 _,fun a b=>by simp [Jb]⟩
theorem gB:Gd Q4 0:=⟨fun _=>rfl,fun _=>Q5 _,fun a b=>by simp [Jb]⟩
theorem gS:Gd Q2 0:=⟨fun _=>rfl,fun _=>Q5 _,fun a b=>by simp [Jb]⟩
section
variable {α β γ κ μ τ:Type} {e:α → D} {e':β → D} {e3:γ → D} {e4:κ → D} {e5:μ → D} {n n2 n3 n4 n5:Nat}
theorem Q4u (g:Gd e n) (hn:n ≤ 64) (a:α):shp (e a) = true:=by
 unfold shp
 rw [g.pl,decide_eq_true (Qj (g.dp a) hn)]; rfl
theorem Q3b [DecidableEq α] (g:Gd e n) (a b:α) (hn:n ≤ 64:=by decide):bD eqD (e a) (e b) = some (.bool (decide (a = b))):=by
 unfold bD eqD
 rw [Q4u g hn,Q4u g hn]
 have:Jb (e a) (e b) = decide (a = b):=by
  rw [Bool.eq_iff_iff,g.eq,decide_eq_true_eq]
 simp [this]
theorem Q6R [DecidableEq α] (g:Gd e n) (a b:α) (hn:n ≤ 64:=by decide):bD neD (e a) (e b) = some (.bool (!decide (a = b))):=by
 unfold bD neD eqD
 rw [Q4u g hn,Q4u g hn]
 have:Jb (e a) (e b) = decide (a = b):=by
  rw [Bool.eq_iff_iff,g.eq,decide_eq_true_eq]
 simp [this]
def Q3u (a b:Int):Option Int:=if 0 < b then some (a % b) else none
theorem Q3Z (a b v:Int) (h:Q3u a b = some v):Yq (.int a) (.int b) = some (.int v):=by
 unfold Q3u at h
 split at h
 ·rename_i c
  cases h
  exact Xq a b c
 ·cases h
theorem Q4J (a:Int):Q50 (.int a) = some (.int (-a)):=rfl
def Q4c (a:Str):Option Int:=if a.length ≤ sizeLine then some (a.length:Int) else none
theorem Q6o (a:Str) (v:Int) (h:Q4c a = some v):g1 Vb [.str a] = some (.int v):=by
 unfold Q4c at h
 show (if a.length ≤ sizeLine then some (Q0 a.length) else none) = _
 split at h
 ·rename_i c
  cases h
  exact if_pos c
 ·cases h
def reprQ (d:D):Option Str:=(Q9Q d).bind fun z=>match z with | .str s=>some s | _=>none
def Q19 (a b:List α):Option (List α):=if a.length + b.length ≤ sizeLine then some (a ++ b) else none
theorem Q4d (a b v:List α) (h:Q19 a b = some v):X2 (eLi e a) (eLi e b) = some (eLi e v):=by
 unfold Q19 at h
 unfold X2
 show (none:Option D).or (if (a.map e).length + (b.map e).length ≤ sizeLine then some (PyData.list (a.map e ++ b.map e)) else none) = _
 split at h
 ·rename_i c
  cases h
  rw [Qc,Qc,if_pos c,← List.map_append]; rfl
 ·cases h
theorem Q8D (a b v:List α) (h:Q19 a b = some v):X2 (eTu e a) (eTu e b) = some (eTu e v):=by
 unfold Q19 at h
 unfold X2
 show (if (a.map e).length + (b.map e).length ≤ sizeLine then some (PyData.tuple (a.map e ++ b.map e)) else none).or _ = _
 split at h
 ·rename_i c
  cases h
  rw [Qc,Qc,if_pos c,← List.map_append]; rfl
 ·cases h
theorem Q75 (f:α → β) (xs:List α) (i:Int):atI (xs.map f) i = (atI xs i).map f:=by
 unfold atI
 rw [Qc]
 cases ixN xs.length i with
 | none=>rfl
 | some j=>simp
theorem V4 (xs:List α) (i:Int) (v:α) (h:atI xs i = some v):Xe (eLi e xs) (.int i) = some (e v):=by
 show atI (xs.map e) i = _
 rw [Q75,h]; rfl
def sIx (z:Str) (i:Int):Option Str:=if z.length ≤ sizeLine then (atI z.cps.toList i).map fun c=>⟨#[c]⟩ else none
theorem Q2l:∀ xs:List Bool,W5 (xs.map Q4) = some xs
 | []=>rfl
 | b :: xs=>by
  show (W5 (xs.map Q4)).map (b :: ·) = _
  rw [Q2l xs]; rfl
theorem Q9B (xs:List Bool):g1 Q7H [eLi Q4 xs] = some (.bool (xs.all id)):=by
 show (W5 (xs.map Q4)).map _ = _
 rw [Q2l]; rfl
theorem Q6p (xs:List α):g1 Q6P [eLi e xs] = some (eTu e xs):=rfl
theorem Q9E (xs:List α):V9 (eLi e xs) = some (xs.map e):=rfl
def chN (z:Str):List Str:=z.cps.toList.map fun c=>⟨#[c]⟩
theorem Q9J (z:Str):V9 (.str z) = some ((chN z).map Q2):=by
 show some (z.cps.toList.map fun c=>Q2 ⟨#[c]⟩) = _
 unfold chN
 rw [List.map_map]; rfl
def atomB (d:D):Bool:=match d with | .tuple (_ :: _)=>true | _=>false
def Kl [DecidableEq α] (xs:List (α × β)) (k:α):Option β:=(xs.find? fun p=>decide (p.1 = k)).map (·.2)
def Q8R [DecidableEq α] (xs:List (α × β)) (k:α):Bool:=(Kl xs k).isSome
structure Kg {α:Type} (e:α → D) (f:α → Key):Prop where
 k:∀ a,keyOf (e a) = some (f a)
 d:∀ a,Q2d (f a) = e a
 i:∀ a b,f a = f b → a = b
theorem kgS:Kg Q2 Sum.inr:=⟨fun _=>rfl,fun _=>rfl,fun a b h=>by cases h; rfl⟩
variable {kf:α → Key}
theorem Q3n [DecidableEq α] (g:Kg e kf) (xs:List (α × β)) (k:α):Q1l (xs.map fun p=>(e p.1,e' p.2)) (kf k) = (Kl xs k).map e':=by
 unfold Q1l Kl
 have hf:((fun p=>decide (keyOf p.1 = some (kf k))) ∘ fun p:α × β=>(e p.1,e' p.2)) = fun p=>decide (p.1 = k):=by
  funext p
  simp only [Function.comp,g.k,J2.injEq]
  by_cases h:p.1 = k
  ·simp [h]
  ·have hn:¬ kf p.1 = kf k:=fun z=>h (g.i _ _ z)
   simp [h,hn]
 rw [List.find?_map,Option.map_map,Option.map_map,hf]
 rfl
theorem Q86 [DecidableEq α] (g:Kg e kf) (xs:List (α × β)) (k:α) (v:β) (h:Kl xs k = some v):Xe (eDi e e' xs) (e k) = some (e' v):=by
 have q:Xe (eDi e e' xs) (e k) = (keyOf (e k)).bind (Q1l (xs.map fun p=>(e p.1,e' p.2))):=by
  unfold Xe eDi
  cases e k <;> rfl
 rw [q,g.k,Q1,Q3n g,h]; rfl
theorem Q68 [DecidableEq α] (g:Kg e kf) (xs:List (α × β)) (k:α):bD Q2I (e k) (eDi e e' xs) = some (.bool (!Q8R xs k)):=by
 show (((keyOf (e k)).map fun k=>(Q1l (xs.map fun p=>(e p.1,e' p.2)) k).isSome).map _).map _ = _
 rw [g.k,Q6,Q3n g,Option.isSome_map]; rfl
variable {δ:List Sl} {fa:Fe} {o:Option γ} {r:γ → D × List Sl}
theorem Q1b {z:γ → D} {f:Fe} (h:VN f δ o r) (e:∀ x,(r x).1 = z x):VN f δ o (fun x=>(z x,(r x).2)):=fun x hx=>by
 rw [h x hx]
 show some (r x) = some (z x,(r x).2)
 rw [← e x]
theorem Q5K {q:γ → Option β} {e:β → D} {f:Fe} (h:VN f δ o r) (hr:∀ x v,q x = some v → (r x).1 = e v):VN f δ (o.bind fun x=>(q x).map fun v=>(x,v)) (fun p=>(e p.2,(r p.1).2)):=fun p hp=>by
 obtain ⟨x,hx,hp⟩:=Y3 hp
 obtain ⟨v,hv,rfl⟩:=Kv hp
 rw [h x hx]
 show some (r x) = some (e v,(r x).2)
 rw [← hr x v hv]
theorem Q9n {w:τ → D} {f:α → τ} (h1:∀ x,e x = w (f x)) (p:α):eP1 e p = eTu w [f p]:=by
 unfold eP1 eTu
 rw [h1]; rfl
def asI:D → Option Int | .int i=>some i | _=>none
def asS:D → Option Str | .str i=>some i | _=>none
theorem Q9r (d:D) (v:Int) (h:asI d = some v):d = .int v:=by
 cases d <;> first | cases h; rfl | cases h
theorem Q5w (d:D) (v:Str) (h:asS d = some v):d = .str v:=by
 cases d <;> first | cases h; rfl | cases h
def asP2 (f:D → Option α) (g:D → Option β):D → Option (α × β) | .tuple [a,b]=>(f a).bind fun x=>(g b).map fun y=>(x,y) | _=>none
theorem Q5y (d:D) (v:List D) (h:V9 d = some v):V9 d = some (v.map eD):=by
 rw [h]
 congr 1
 exact (List.map_id v).symm
theorem Q6J (o:Option D) (v:Int) (h:o.bind asI = some v):o = some (.int v):=by
 obtain ⟨d,h1,h2⟩:=Y3 h
 rw [h1,Q9r d v h2]
def Q1J (ns:List Int):Dk:=⟨Xy ns,Q1L ns,0⟩
def Ww (k:Dk) (M:Int):Option (Int × Dk):=match Q21 [sDk k,.fz (.int M)] with
 | some (.int r,[.dk cs m n,.fz (.int M')])=>if M' = M then some (r,⟨cs,m,n⟩) else none
 | _=>none
theorem Q70 (k:Dk) (M:Int):∀ v,Ww k M = some v → Q21 [sDk k,.fz (.int M)] = some (.int v.1,[sDk v.2,.fz (.int M)]):=fun v h=>by
 unfold Ww at h
 split at h
 ·rename_i r cs m n M' e
  split at h
  ·rename_i c
   cases h
   subst c
   exact e
  ·cases h
 ·cases h
theorem Q5V (k:Dk) (M:Int) (hM:0 < M) (hM2:M < 2 ^ 30) (hc:k.cs.length ≤ 63):∃ r k',Ww k M = some (r,k') ∧ 0 ≤ r ∧ r < M ∧ k'.cs.length ≤ 63:=by
 obtain ⟨r,cs',n',h1,h2,h3,h4⟩:=Q7h k.cs k.m k.n M hM hM2 hc
 refine ⟨r,⟨cs',k.m,n'⟩,?_,h1,h2,h3⟩
 unfold Ww
 show (match Q21 [.dk k.cs k.m k.n,.fz (.int M)] with | some (.int r,[.dk cs m n,.fz (.int M')])=>if M' = M then some (r,(⟨cs,m,n⟩:Dk)) else none | _=>none) = _
 rw [h4]
 exact if_pos rfl
theorem Q7R {i j:Nat} {as:List Sl → Option (List Sl)} {g':Fg} {o:Option β} {r:β → Oc} {ns:List Int} (k:SB as g' (δ.set i (sDk (Q1J ns))) o r) (hj:δ[j]? = some (.scr ns):=by rfl) (hi:decide (i < δ.length) = true:=by rfl):SB as (Jp (Q3r i j) g') δ o r:=fun v hv=>by
 rw [W4 (δ1:=δ.set i (sDk (Q1J ns)))]
 ·exact k v hv
 ·unfold Q3r
  rw [hj]
  exact if_pos (of_decide_eq_true hi)
theorem Q2E:VP Q6q δ (eDi e e' []):=rfl
def PPr (f:List Sl → Option (List (D × D) × List Sl)) (δ:List Sl) (ds:List (D × D)):Prop:=f δ = some (ds,δ)
theorem Q6y:PPr Q7L δ []:=rfl
theorem Ku {fk fv:Fe} {fr:List Sl → Option (List (D × D) × List Sl)} {k v:D} {ds:List (D × D)} (hk:VP fk δ k) (hv:VP fv δ v) (hr:PPr fr δ ds):PPr (Ze fk fv fr) δ ((k,v) :: ds):=by
 unfold PPr Ze
 rw [show fk δ = some (k,δ) from hk,Q1,show fv δ = some (v,δ) from hv,Q1,show fr δ = some (ds,δ) from hr]
 rfl
theorem Q4x {fr:List Sl → Option (List (D × D) × List Sl)} {ds:List (D × D)} {ks:List Key} (h:PPr fr δ ds) (hk:Q04 ds = some ks) (hl:decide (ks.length ≤ 15) = true:=by rfl):VP (Q2v fr) δ (.dict ds):=by
 unfold VP Q2v
 rw [show fr δ = some (ds,δ) from h,Q1,hk,Q1]
 exact if_pos (of_decide_eq_true hl)
theorem Q3p (o:Option Bool) (v:Bool) (h:o = some v):o.map Q4 = some (.bool v):=by rw [h]; rfl
end
end Z
namespace Z
open PySem PySem.Spec PyProof.Rows L2
variable {α β:Type}
end Z
namespace Z
open PySem PySem.Spec PyProof.Rows L2
end Z
namespace Z
open PySem PySem.Spec PyProof.Rows L2
end Z
namespace Z
open PySem PySem.Spec PyProof.Rows L2
variable {α β:Type} {e:α → D} {e':β → D} {kf:α → Key}
end Z
namespace Z
open PySem PySem.Spec PyProof.Rows L2
variable {α β:Type} {e:α → D} {e':β → D}

@[irreducible] def rngK (n:Int):List Int:=Q0d 0 n.toNat
theorem Q7o (n:Int):rngK n = Q0d 0 n.toNat:=by unfold rngK; rfl
theorem Q4K {j:Int} {δ:List Sl} {fr:List Sl → Option (List D × List Sl)} (h:AP fr δ [.int j]) (hj:Vd j = true:=by decide):AP (Q0j fr) δ ((rngK j).map Q0):=by
 rw [Q7o]
 exact Q0p h hj
end Z
namespace Z
open PySem PySem.Spec PyProof.Rows L2
section
variable {α β:Type}
structure Kx (e:α → D) (ke:α → NestedKey):Prop where
 nk:∀ a,Zu (e a) = some (ke a)
 inj:∀ a b,ke a = ke b → a = b
 ok:∀ xs:List α,okB (xs.map e) = true
variable {e:α → D} {ke:α → NestedKey} [DecidableEq α]
end

end Z
namespace Z
open PySem PySem.Spec PyProof.Rows L2
end Z
namespace Z
open PySem PySem.Spec PyProof.Rows L2
end Z
namespace Z
open PySem PySem.Spec PyProof.Rows L2
end Z
namespace Z
open PySem PySem.Spec PyProof.Rows L2

end Z
namespace Z
open PySem PySem.Spec PyProof.Rows L2
end Z
namespace Z
open PySem PySem.Spec PyProof.Rows L2
def Zl (d:D):Option Str:=(Ko d).bind fun z=>match z with | .str s=>some s | _=>none
theorem Q3j (d:D) (v:Str) (h:Zl d = some v):g1 Ko [d] = some (.str v):=by
 unfold Zl at h
 show Ko d = _
 cases e:Ko d with
 | none=>rw [e] at h; cases h
 | some z =>
  rw [e] at h
  cases z <;> first | (cases h; rfl) | cases h
end Z
namespace Z
open PySem PySem.Spec PyProof.Rows L2
def gd (g:List Sl → Bool) (f:List Sl → Option (D × List Sl)):List Sl → Option (D × List Sl):=fun δ=>if g δ = true then f δ else none
structure CF (K:PySem.W.Frag) (c f:Str):Prop where
 ex:∀ C,Q17 K c C → Cls K C ∧ NoAttr K C f
structure Rc (X:Cx) (i:Nat) (o:Expr) (g:List Sl → Bool):Prop where
 ex:∃ t,PE X o t ∧ ∀ (Y:Fx) (F H:Hp) (δ:List Sl) (σ:L2.St) (A:Nat → List Addr),SR X.K Y F H δ σ A → g δ = true → ∀ (v:V) (Q:VK),σ[i]? = some (some v) → Q v H → t σ H Q

end Z
namespace Z
open PySem PySem.Spec PyProof.Rows L2
def GE (X:Cx) (σ σ':L2.St):Prop:=σ'.length = σ.length ∧ ∀ (i:Nat) (x:Str),X.N[i]? = some x → Vis X.env.scope x → σ'[i]? = σ[i]?
theorem GE.symm {X:Cx} {σ σ':L2.St} (h:GE X σ σ'):GE X σ' σ:=⟨h.1.symm,fun i x a b=>(h.2 i x a b).symm⟩
inductive Rs where
 | ok (d:D)
 | ex (c:Str)
inductive FrO where
 | f (fr:Fr)
 | o (c:Str) (sh:List (Str × Bool))
def Q8h (K:PySem.W.Frag) (F H:Hp):List (Str × Bool) → List (Str × V) → List D → List Addr → Prop
 | [],[],[],L=>L = []
 | (f,false) :: sh,(g,v) :: fv,d :: ds,L=>g = f ∧ Rp K F v d ∧ Q8h K F H sh fv ds L
 | (f,true) :: sh,(g,v) :: fv,d :: ds,L=>∃ q L',v = .ref q ∧ L = q :: L' ∧ g = f ∧ K8 K F H q d ∧ Q8h K F H sh fv ds L'
 | _,_,_,_=>False
def Q9S (K:PySem.W.Frag) (F H:Hp) (fresh:Addr → Prop) (c:Str) (sh:List (Str × Bool)) (v:V) (d:D):Prop :=
 ∃ p dx C fvs ds L,v = .ref p ∧ d = .tuple ds ∧ Q17 K c C ∧ H p = some (.ins C dx fvs) ∧ H dx = some (.own p) ∧ (p :: dx :: L).Nodup ∧ (∀ a ∈ p :: dx :: L,fresh a ∧ F a = none) ∧ Q8h K F H sh fvs ds L
def RetX (K:PySem.W.Frag) (A:Nat → List Addr) (fr:FrO) (H F' H':Hp) (v:V) (d:D):Prop :=
 match fr with
 | .f fr=>Ret K A fr H F' H' v d
 | .o c sh=>Q9S K F' H' (fun a=>H a = none) c sh v d
def Fx.args (n:Nat):Fx:=⟨Iom.of fun i=>decide (n ≤ i),fun _=>false,fun i=>decide (n ≤ i),fun _=>none,fun _=>none,[],fun _=>[],fun _ _=>rfl⟩
structure StpX (A:Nat → List Addr) (mv:Nat → Bool) (N:Nat) (F H F' H':Hp):Prop where
 f:Same F F'
 nw:∀ a,F a = none → F' a ≠ none → H a = none ∨ ∃ j,mv j = true ∧ a ∈ A j
 kp:∀ a o,H a = some o → (∀ i,i < N → a ∉ A i) → H' a = some o
structure MvR (A A':Nat → List Addr) (mv:Nat → Bool) (H:Hp) (σ σ':L2.St):Prop where
 len:σ'.length = σ.length
 eq:∀ i,mv i = false → σ'[i]? = σ[i]? ∧ A' i = A i
 mv:∀ i a,mv i = true → a ∈ A' i → (∃ j,mv j = true ∧ a ∈ A j) ∨ H a = none
theorem MvR.same {A A':Nat → List Addr} {H:Hp} {σ σ':L2.St} (h:MvR A A' (fun _=>false) H σ σ'):σ' = σ ∧ A' = A :=
 ⟨List.ext_getElem? fun i=>(h.eq i rfl).1,funext fun i=>(h.eq i rfl).2⟩
def spX (K:PySem.W.Frag) (n m:Nat) (mv:Nat → Bool) (fr:FrO) (φ:List Sl → Option (Rs × List Sl)):Sp:=fun us H Q E =>
 ∃ (F:Hp) (as:List Sl) (A:Nat → List Addr) (τ:L2.St),us.length = n ∧ τ.length = m ∧ as.length = n + m ∧ SR K (Fx.args n) F H as (us.map some ++ τ) A ∧ ∃ r outs,φ as = some (r,outs) ∧
  ∀ F' H' σ' A',StpX A mv (n + m) F H F' H' → MvR A A' mv H (us.map some ++ τ) σ' → SR K (Fx.args n) F' H' outs σ' A' →
   match r with
   | .ok d=>∀ v,RetX K A fr H F' H' v d → Q v H'
   | .ex c=>∀ C,Q17 K c C → E (.ref C) none H'
inductive Ox where
 | o (o:Out)
 | ex (c:Str) (δ:List Sl)

end Z
namespace Z
open PySem PySem.Spec PyProof.Rows L2
open Classical in
/-- the heap of the entry,without what may be given anew -/
noncomputable def redH (B:Nat → List Addr) (mv:Nat → Bool) (H:Hp):Hp:=fun a=>if ∃ j,mv j = true ∧ a ∈ B j then none else H a
noncomputable def Fx.body (sg:List Bool) (n:Nat) (vl:List Nat) (mv:Nat → Bool) (H F:Hp) (σ:L2.St) (B:Nat → List Addr):Fx :=
 ⟨⟨fun i=>Vu sg i || vl.contains i,fun i=>mv i || vl.contains i⟩,fun i=>Vu sg i && !(mv i || vl.contains i),fun i=>(decide (n ≤ i) && decide (i < sg.length)) || vl.contains i,redH B mv H,F,σ,B,fun i h=>by
  have h:(mv i || vl.contains i) = true:=h
  rw [h]; simp⟩
structure XOk (sg:List Bool) (n m t:Nat) (vl:List Nat) (mv:Nat → Bool):Prop where
 len:sg.length = n + m
 le:n + m ≤ t
 vs:∀ i,n ≤ i → i < n + m → Vu sg i = true
 vl:∀ i,vl.contains i = true → n + m ≤ i ∧ i < t
 mv:∀ i,mv i = true → n ≤ i ∧ i < n + m


end Z
namespace Z
open PySem PySem.Spec PyProof.Rows L2

end Z
namespace Z
open PySem PySem.Spec PyProof.Rows L2

end Z
namespace Z
open PySem PySem.Spec PyProof.Rows L2
inductive Ra where
 | as (l:List Ar)
 | ex (c:Str)

structure KnX (X:Cx) (x:Str) (n m:Nat) (mv:Nat → Bool) (fr:FrO) (φ:List Sl → Option (Rs × List Sl)):Prop where
 ex:∃ (k:Nat) (a:Addr) (fd:FuncData) (ps:List Str),FnG X.prog X.w X.K X.mg X.base (CX X.prog X.w) k a fd ps (spX X.K n m mv fr φ) ∧ ps.length = n ∧ Room k X.A ∧ X.mg x = some (.ref a) ∧ PySem.W.keepIn X.K (.ref a) = true ∧ Binds X.K fd ps []
 gd:X.A.guards = some []
 gl:Gl X x
 db:(x == ("__debug__":Str)) = false
structure KnM (X:Cx) (c mth:Str) (n m:Nat) (mv:Nat → Bool) (fr:FrO) (φ:List Sl → Option (Rs × List Sl)):Prop where
 ex:∃ (C:Addr) (k:Nat) (a:Addr) (fd:FuncData) (ps:List Str),(∀ C',Q17 X.K c C' → C' = C) ∧ Cls X.K C ∧ Meth X.K C mth a ∧ FnG X.prog X.w X.K X.mg X.base (CX X.prog X.w) k a fd ps (spX X.K n m mv fr φ) ∧ ps.length = n ∧ Room k X.A ∧ Binds X.K fd ps []
 gd:X.A.guards = some []



end Z
namespace Z
open PySem PySem.Spec PyProof.Rows L2
section
variable {X:Cx} {W:WX} {io:Iom} {vt:Nat → Bool} {fr:FrO} {pos:Pos} {e a b:Expr} {f:List Sl → Option (Rs × List Sl)} {M Ma Mb:List Nat}
def x2 (g:D → D → Option D) (fa:List Sl → Option (Rs × List Sl)) (fb:List Sl → Option (D × List Sl)):List Sl → Option (Rs × List Sl):=fun δ=>(fa δ).bind fun p=>match p.1 with
 | .ex c=>some (.ex c,p.2)
 | .ok d=>(fb p.2).bind fun q=>(g d q.1).map fun z=>(.ok z,q.2)
structure XC (K:PySem.W.Frag) (mg:Str → Option Value) (c:Str):Prop where
 ex:∃ C,mg c = some (.ref C) ∧ Q17 K c C ∧ PySem.W.excIn K C [.type "ValueError",.type "Exception",.type "BaseException",.type "object"] "ValueError.__new__" = true ∧ PySem.W.keepIn K (.ref C) = true ∧ PySem.W.subIn K (.ref C) (.type "BaseException") = some true ∧ PySem.W.typeIn K (.ref C) = some (.type "type")
end
end Z
namespace Z
open PySem PySem.Spec PyProof.Rows L2

end Z
namespace Z
open PySem PySem.Spec PyProof.Rows L2

section
variable {X:Cx} {W:WX} {io:Iom} {vt:Nat → Bool} {fr:FrO} {pos:Pos} {e:Expr} {es:List Expr} {c x:Str} {sh:List (Str × Bool)} {M B js:List Nat} {n m:Nat} {φ:List Sl → Option (Rs × List Sl)}
structure KnC (X:Cx) (c:Str) (n m:Nat) (mv:Nat → Bool) (φ:List Sl → Option (Rs × List Sl)):Prop where
 ex:∃ (C:Addr) (k:Nat) (a:Addr) (fd:FuncData) (ps:List Str),Q17 X.K c C ∧ X.mg c = some (.ref C) ∧ L2.Mk X.K C a ∧ FnG X.prog X.w X.K X.mg X.base (CX X.prog X.w) k a fd ps (spX X.K n m mv (.f .n) φ) ∧ ps.length = n ∧ Room (k + 1) X.A ∧ Binds X.K fd ps []
 gd:X.A.guards = some []
 gl:Gl X c
 db:(c == ("__debug__":Str)) = false
end
end Z
namespace Z
open PySem PySem.Spec PyProof.Rows L2

end Z
namespace Z
open PySem PySem.Spec PyProof.Rows L2


end Z
namespace Z
open PySem PySem.Spec PyProof.Rows L2
structure Q8l (K:PySem.W.Frag) (mg:Str → Option Value) (ns:List Str):Prop where
 b:excB K ns = true
 m:∀ c C,Q17 K c C → mg c = some (.ref C)
section
variable {K:PySem.W.Frag} {mg:Str → Option Value} {ns:List Str}
structure Q85 (K:PySem.W.Frag) (C:Addr):Prop where
 e:PySem.W.excIn K C [.type "ValueError",.type "Exception",.type "BaseException",.type "object"] "ValueError.__new__" = true
 k:PySem.W.keepIn K (.ref C) = true
 s:PySem.W.subIn K (.ref C) (.type "BaseException") = some true
 t:PySem.W.typeIn K (.ref C) = some (.type "type")
 x:ExcC K C
 v:PySem.W.kitOne K (.ref C) (.type "ValueError") = some true
theorem Q3X {C:Addr} (h:Q6x K C = true):Q85 K C:=by
 unfold Q6x at h
 simp only [Q3,beq_iff_eq] at h
 obtain ⟨⟨⟨⟨⟨⟨⟨⟨⟨⟨⟨h1,h2⟩,h3⟩,h4⟩,h5⟩,h6⟩,h7⟩,h8⟩,h9⟩,h10⟩,h11⟩,h12⟩:=h
 have h4':PySem.W.typeIn K (.ref C) = some (.type "type"):=by
  split at h4
  ·rename_i t e; rw [e,beq_iff_eq.mp h4]
  ·cases h4
 have h5':PySem.W.findIn K (.ref C) "__getattribute__" = some (some (.builtin "BaseException.__getattribute__")):=by
  split at h5
  ·rename_i t e; rw [e,beq_iff_eq.mp h5]
  ·cases h5
 have h6':PySem.W.findIn K (.ref C) "__getattr__" = some none:=by
  split at h6
  ·rename_i e; exact e
  ·cases h6
 have h8':PySem.W.findIn K (.ref C) "__class__" = some (some (.builtin "object.__class__")):=by
  split at h8
  ·rename_i t e; rw [e,beq_iff_eq.mp h8]
  ·cases h8
 have h9':PySem.W.specialIn K (.builtin "object.__class__") "__get__" = some (some (.builtin "getset_descriptor.__get__")):=by
  split at h9
  ·rename_i t e; rw [e,beq_iff_eq.mp h9]
  ·cases h9
 exact ⟨h1,h2,h3,h4',⟨h5',h6',h3,h7,h8',h9',h10,h11⟩,h12⟩
theorem Q8l.at_ (T:Q8l K mg ns) {c:Str} (h:ns.contains c = true):∃ C,Q17 K c C ∧ mg c = some (.ref C) ∧ Q85 K C ∧ ∀ d,ns.contains d = true → ∃ D,Q17 K d D ∧ PySem.W.kitOne K (.ref C) (.ref D) = some (Q7q c d) ∧ PySem.W.exmOne K (.ref C) (.ref D) = some (Q7q c d):=by
 have q:=Qi.mp T.b c (List.contains_iff_mem.mp h)
 split at q
 case h_2=>cases q
 rename_i C e
 rw [Q3] at q
 refine ⟨C,e,T.m c C e,Q3X q.1,fun d hd=>?_⟩
 have q2:=Qi.mp q.2 d (List.contains_iff_mem.mp hd)
 split at q2
 case h_2=>cases q2
 rename_i D e2
 rw [Q3,beq_iff_eq,beq_iff_eq] at q2
 exact ⟨D,e2,q2.1,q2.2⟩
end


end Z
namespace Z
open PySem PySem.Spec PyProof.Rows L2
section
variable {X:Cx} {a C:Addr} {oe:Obj} {pn:List (Addr × Obj)} {c d ex:Str} {ns:List Str} {i:Nat} {p p1 p2 pos:Pos}
inductive Q57 (X:Cx) (ns:List Str):List Expr → List Str → Prop
 | nil:Q57 X ns [] []
 | cons {d:Str} {p:Pos} {es:List Expr} {ds:List Str}:ns.contains d = true → Gl X d → (d == ("__debug__":Str)) = false → starEach (.Name d p :: es) X.env = (false,eval (.Name d p) X.env) :: starEach es X.env → Q57 X ns es ds → Q57 X ns (.Name d p :: es) (d :: ds)
def Q9c (us:List Addr):TA:=fun _ H Q=>Q (us.map V.ref) H
theorem Q57.pa {X:Cx} {ns:List Str} (T:Q8l X.K X.mg ns):∀ {es:List Expr} {ds:List Str},Q57 X ns es ds → ∃ us:List Addr,us.length = ds.length ∧ (∀ (k:Nat) D d,us[k]? = some D → ds[k]? = some d → ns.contains d = true ∧ Q17 X.K d D) ∧ PA X es (Q9c us)
 | _,_,.nil=>⟨[],rfl,fun k D d e=>by simp at e,pa_nil⟩
 | _,_,.cons (d:=d) hd gl db hs r=>by
  obtain ⟨us,h1,h2,h3⟩:=Q57.pa T r
  obtain ⟨D,d1,d2,_⟩:=T.at_ hd
  refine ⟨D :: us,congrArg (· + 1) h1,fun k D' d' e1 e2=>?_,pa_cons (pe_glob (v:=V.ref D) gl d2 rfl db) h3 hs⟩
  cases k with
  | zero=>cases e1; cases e2; exact ⟨hd,d1⟩
  | succ k=>exact h2 k D' d' e1 e2
end
end Z
namespace Z
open PySem PySem.Spec PyProof.Rows L2


end Z
namespace Z
open PySem PySem.Spec PyProof.Rows L2
section
variable {X:Cx} {W:WX} {e kx:Expr} {es:List Expr} {pos spos np:Pos} {x:Str}
structure TabOk (P:Program) (w:World) (K:PySem.W.Frag) (mg:Str → Option Value) (base:Heap) (x:Str) (kk n m:Nat) (tab:List (Str × (List Sl → Option (Rs × List Sl)))):Prop where
 ex:∃ p:Addr,mg x = some (.ref p) ∧ ∀ z φ,tab.lookup z = some φ → ∃ (a:Addr) (fd:FuncData) (ps:List Str),KDct K w p z (.ref a) ∧ FnG P w K mg base (CX P w) kk a fd ps (spX K n m (fun _=>false) (.f .n) φ) ∧ ps.length = n ∧ PySem.W.keepIn K (.ref a) = true ∧ Binds K fd ps []
end
structure GX (P:Program) (w:World) (K:PySem.W.Frag) (mg:Str → Option Value) (base:Heap) (x:Str) (k n m:Nat) (mv:Nat → Bool) (fr:FrO) (φ:List Sl → Option (Rs × List Sl)):Prop where
 ex:∃ (a:Addr) (fd:FuncData) (ps:List Str),FnG P w K mg base (CX P w) k a fd ps (spX K n m mv fr φ) ∧ ps.length = n ∧ mg x = some (.ref a) ∧ PySem.W.keepIn K (.ref a) = true ∧ Binds K fd ps []
structure GM (P:Program) (w:World) (K:PySem.W.Frag) (mg:Str → Option Value) (base:Heap) (c mth:Str) (k n m:Nat) (mv:Nat → Bool) (fr:FrO) (φ:List Sl → Option (Rs × List Sl)):Prop where
 ex:∃ (C a:Addr) (fd:FuncData) (ps:List Str),Q17 K c C ∧ Cls K C ∧ Meth K C mth a ∧ FnG P w K mg base (CX P w) k a fd ps (spX K n m mv fr φ) ∧ ps.length = n ∧ Binds K fd ps []
structure GI (P:Program) (w:World) (K:PySem.W.Frag) (mg:Str → Option Value) (base:Heap) (c:Str) (k n m:Nat) (mv:Nat → Bool) (φ:List Sl → Option (Rs × List Sl)):Prop where
 ex:∃ (C a:Addr) (fd:FuncData) (ps:List Str),Q17 K c C ∧ mg c = some (.ref C) ∧ L2.Mk K C a ∧ FnG P w K mg base (CX P w) k a fd ps (spX K n m mv (.f .n) φ) ∧ ps.length = n ∧ Binds K fd ps []

end Z
namespace Z
open PySem PySem.Spec PyProof.Rows L2
mutual
def ndD:D → Bool
 | .list xs=>ndL xs
 | .tuple xs=>ndL xs
 | .dict _=>false
 | _=>true
def ndL:List D → Bool
 | []=>true
 | x :: r=>ndD x && ndL r
end
def ndV:List (D × D) → Bool
 | []=>true
 | x :: r=>ndD x.2 && ndV r
def rmH (F:Hp) (q:Addr):Hp:=fun a=>if a = q then none else F a
theorem Q4b {F:Hp} {q a:Addr} (h:a ≠ q):rmH F q a = F a:=if_neg h
section
variable {K:PySem.W.Frag} {G:Hp} {q:Addr} {oq:Obj} {kq:List (Key × V)}
theorem Q8v (hq:G q = some (.frz oq (.dK kq))) {a:Addr} {xs:List V} (h:SqT K G a xs):SqT K (rmH G q) a xs:=by
 rcases h with h | h
 ·rcases h with h | ⟨o,h⟩
  ·exact .inl (.inl (by rw [Q4b]; exact h; intro z; subst z; rw [hq] at h; cases h))
  ·exact .inl (.inr ⟨o,by rw [Q4b]; exact h; intro z; subst z; rw [hq] at h; cases h⟩)
 ·exact .inr h
mutual
theorem Rp.rm (hq:G q = some (.frz oq (.dK kq))):∀ {v:V} {d:D},Rp K G v d → ndD d = true → Rp K (rmH G q) v d
 | _,_,.non,_=>.non
 | _,_,.bl b,_=>.bl b
 | _,_,.int i,_=>.int i
 | _,_,.str x,_=>.str x
 | _,_,.lst h r,n=>.lst (by rw [Q4b]; exact h; intro z; subst z; rw [hq] at h; cases h) (Rps.rm hq r (by unfold ndD at n; exact n))
 | _,_,.tup h r,n=>.tup (Q8v hq h) (Rps.rm hq r (by unfold ndD at n; exact n))
 | _,_,.dic h r,n=>by unfold ndD at n; cases n
theorem Rps.rm (hq:G q = some (.frz oq (.dK kq))):∀ {vs:List V} {ds:List D},Rps K G vs ds → ndL ds = true → Rps K (rmH G q) vs ds
 | _,_,.nil,_=>.nil
 | _,_,.cons h r,n=>.cons (Rp.rm hq h (by unfold ndL at n; rw [Q3] at n; exact n.1)) (Rps.rm hq r (by unfold ndL at n; rw [Q3] at n; exact n.2))
theorem RpK.rm (hq:G q = some (.frz oq (.dK kq))):∀ {vs:List (Key × V)} {ds:List (D × D)},RpK K G vs ds → ndV ds = true → RpK K (rmH G q) vs ds
 | _,_,.nil,_=>.nil
 | _,_,.cons h r,n=>.cons (Rp.rm hq h (by unfold ndV at n; rw [Q3] at n; exact n.1)) (RpK.rm hq r (by unfold ndV at n; rw [Q3] at n; exact n.2))
end
end

end Z
namespace Z
open PySem PySem.Spec PyProof.Rows L2


end Z
namespace Z
open PySem PySem.Spec PyProof.Rows L2

end Z
namespace Z
open PySem PySem.Spec PyProof.Rows L2 He
def Vj (K:PySem.W.Frag) (x d:String) (st:Stmt):Prop:=∃ (f:Addr) (fd:FuncData),PySem.W.nsIn K mainGlobals x = some (some (.ref f)) ∧ Fun K d d st f fd
theorem Q94 {K:PySem.W.Frag} {x d:String} {st:Stmt} {f:Addr} {od an:Option Addr} {sl:Array (Option Value)} {oc kV dc pm cd ct:Value} (a:PySem.W.nsIn K mainGlobals x = some (some (.ref f))) (l:K.lookup f = some ⟨oc,od,.func (PySem.W.fnOf d d (defArgs st) (defBody st) (defScope st) .none kV dc pm an cd ct),sl⟩) (c:PySem.W.codeIn K cd d = true) (k:PySem.W.keepIn K (.ref f) = true):Vj K x d st:=⟨f,_,a,fun_mk l c k⟩
theorem Y9 {K:PySem.W.Frag} {x d:String} {st:Stmt} {h:Heap} {mg:Str → Option Value} {p:Prop} (F:Vj K x d st) (X:K.In h) (G:h.Ns mainGlobals mg) (q:∀ {f:Addr} {fd:FuncData},Fun K d d st f fd → mg x = some (.ref f) → p):p:=let ⟨_,_,a,u⟩:=F; q u (PySem.W.mg_of X G a)
structure Q9N (K:PySem.W.Frag) (c:String) (C:Addr):Prop where
 at_:PySem.W.nsIn K mainGlobals c = some (some (.ref C))
 cl:Cls K C
inductive Q8U (P:Program) (w:World) (K:PySem.W.Frag) (mg:Str → Option Value) (base:Heap) (p:Addr) (kk n m:Nat):List (Str × (List Sl → Option (Rs × List Sl))) → Prop
 | nil:Q8U P w K mg base p kk n m []
 | cons {z x:Str} {a:Addr} {φ:List Sl → Option (Rs × List Sl)} {k:Nat} {r:List (Str × (List Sl → Option (Rs × List Sl)))} (g:GX P w K mg base x k n m (fun _=>false) (.f .n) φ) (hk:k ≤ kk) (hm:mg x = some (.ref a)) (hz:PySem.W.nsIn K p z = some (some (.ref a))) (t:Q8U P w K mg base p kk n m r):Q8U P w K mg base p kk n m ((z,φ) :: r)
end Z
namespace Z
open PySem PySem.Spec PyProof.Rows L2

end Z
namespace Z
open PySem PySem.Spec PyProof.Rows L2 He
section
variable {fa:List Fa} {fn:List DefD} {ts:List He.Tab} {ex:PySem.W.Frag → Bool} {cs:List (Str × D)} {w:World} {K:PySem.W.Frag}
theorem Q6z {x qn:Str} {st:Stmt} {f:Addr} {fd:FuncData} (F:FunD K x qn (defArgs st) (defBody st) (defScope st) [] [] f fd):∃ (oc:Value) (od an:Option Addr) (kV dc pm cd ct:Value) (sl:Array (Option Value)),K.lookup f = some ⟨oc,od,.func (PySem.W.fnOf x qn (defArgs st) (defBody st) (defScope st) .none kV dc pm an cd ct),sl⟩ ∧ PySem.W.codeIn K cd qn = true ∧ PySem.W.keepIn K (.ref f) = true:=by
 obtain ⟨⟨oc,od,dV,kV,dc,pm,an,cd,ct,sl,e,l,c,d,_⟩,kp⟩:=F
 rcases d with ⟨_,d⟩ | ⟨d,_⟩
 ·subst d; subst e
  exact ⟨oc,od,an,kV,dc,pm,cd,ct,sl,l,c,kp⟩
 ·exact absurd rfl d
theorem Wo.gl (c:Wo fa fn ts ex cs w K) (i:Nat) {x:Str} (h:fa[i]? = some (.glo x):=by rfl):PySem.W.nsIn K mainGlobals x = some (some (.ref (ga K x))):=eqO_ok (c.t.d.fact i h)
theorem Wo.fr (c:Wo fa fn ts ex cs w K) (i:Nat) {x:Str} (h:fa[i]? = some (.free x):=by rfl):PySem.W.nsIn K mainGlobals x = some none:=eqO_ok (c.t.d.fact i h)
theorem Wo.cl (c:Wo fa fn ts ex cs w K) (i j:Nat) {x:String} (h:fa[i]? = some (.glo x):=by rfl) (h2:fa[j]? = some (.cls x):=by rfl):Q9N K x (ga K x):=⟨c.gl i h,cls_ok (c.t.d.fact j h2)⟩
theorem Wo.fd (c:Wo fa fn ts ex cs w K) (i j:Nat) {x d:String} {st:Stmt} (h:fa[i]? = some (.glo x):=by rfl) (h2:fn[j]? = some (dt x d st):=by rfl):Vj K x d st:=by
 obtain ⟨fd,F⟩:=c.t.d.def_ j h2
 obtain ⟨oc,od,an,kV,dc,pm,cd,ct,sl,l,k,kp⟩:=Q6z F
 exact Q94 (c.gl i h) l k kp
theorem Wo.law (c:Wo fa fn ts ex cs w K) (j:Nat) {x d:String} {st:Stmt} (h2:fn[j]? = some (dt x d st):=by rfl):∃ (oc:Value) (od an:Option Addr) (kV dc pm cd ct:Value) (sl:Array (Option Value)),K.lookup (ga K x) = some ⟨oc,od,.func (PySem.W.fnOf d d (defArgs st) (defBody st) (defScope st) .none kV dc pm an cd ct),sl⟩ ∧ PySem.W.codeIn K cd d = true ∧ PySem.W.keepIn K (.ref (ga K x)) = true:=by
 obtain ⟨fd,F⟩:=c.t.d.def_ j h2
 exact Q6z F
theorem Wo.tb (c:Wo fa fn ts ex cs w K) (i:Nat) {t:Str} {ks:List Str} (h:ts[i]? = some (fun K=>ga K t,ks):=by rfl):dicW K (ga K t) = some (keysIn w.params ks):=by
 have e:ts.map (fun t=>dicW K (t.1 K)) = ts.map fun t=>some (keysIn w.params t.2):=congrArg (fun z:AlT=>z.2) c.t
 have e2:(ts.map fun t=>dicW K (t.1 K))[i]? = (ts.map fun t=>some (keysIn w.params t.2))[i]?:=by rw [e]
 rw [Qn,Qn,h] at e2
 exact J2.inj e2
end
end Z
namespace Z
open PySem PySem.Spec PyProof.Rows L2




end Z
namespace Z
open PySem PySem.Spec PyProof.Rows L2


def Qa3 (ds es:List (D × D)):List (D × D):=es.foldl (fun a p=>match keyOf p.1 with | some k=>Q90 a k p.2 | none=>a) ds
theorem RpK.upd {K:PySem.W.Frag} {G:Hp}:∀ {more:List (Key × V)} {es:List (D × D)} {kvs:List (Key × V)} {ds:List (D × D)},RpK K G more es → RpK K G kvs ds → RpK K G (mergeK kvs more) (Qa3 ds es)
 | _,_,_,_,.nil,h=>h
 | _,_,kvs,ds,.cons (k:=k) h r',h0=>by
  show RpK K G (mergeK (putK kvs k _) _) _
  unfold Qa3
  rw [List.foldl_cons]
  simp only [Wd]
  exact RpK.upd r' (h0.put k h)
end Z
namespace Z
open PySem PySem.Spec PyProof.Rows L2
theorem ObR.false {H:Hp} {v:Option V} {σ:L2.St} {fs:List (Str × Nat)} {io:Nat → Bool} (h:ObR (fun _=>false) H v σ fs):ObR io H v σ fs:=⟨fun q hq=>(by cases h.1 q hq),h.2⟩
end Z
namespace Z
open PySem PySem.Spec PyProof.Rows L2
end Z
namespace Z
open PySem PySem.Spec PyProof.Rows L2 He

end Z
namespace Z
open PySem PySem.Spec PyProof.Rows L2


end Z
namespace Z
open PySem PySem.Spec PyProof.Rows L2
def ev7 {α:Type} (xs:List α) (a b:Nat):List α:=(Qy ((b - a + 6) / 7)).filterMap fun m=>xs[a + 7 * m]?
def hiN:Option Int → Option Nat
 | some (.ofNat n)=>some n
 | _=>none

section
variable {X:Cx}
def r7 (K:PySem.W.Frag):V → Option Int → Option Int → Hp → VK → Prop:=fun x lo hi H Q =>
 ∃ a xs k j,x = .ref a ∧ SqT K H a xs ∧ loN lo = some k ∧ hiN hi = some j ∧ ∀ p,H p = none → Q (.ref p) (upd H p (.tup (ev7 xs (min k xs.length) (min j xs.length))))
end
end Z
namespace Z
open PySem PySem.Spec PyProof.Rows L2

end Z
namespace Z
open PySem PySem.Spec PyProof.Rows L2



end Z
namespace Z
open PySem PySem.Spec PyProof.Rows L2



end Z
namespace Z
open PySem PySem.Spec PyProof.Rows L2






end Z
namespace Z
open PySem PySem.Spec PyProof.Rows L2


end Z
namespace Z
open PySem PySem.Spec PyProof.Rows L2
end Z
namespace Z
open PySem PySem.Spec PyProof.Rows L2
def Q31 (z:Str):Bool:=z.cps.all fun x=>decide (x < 128)
theorem Q45 {b:Addr} {its:Array Value}:Begins (.ref b) { cls:=.type "tuple_iterator",data:=.fields #[.ref b,.int 0 0] } (fun h=>h.IsTuple b its) :=
 ⟨fun prog w A E s Q h k=>wpAny_pyIter_tuple h k,fun h h' ⟨o,e,r⟩ k=>⟨o,k _ _ e,r⟩,rfl⟩
theorem Q43 {z:Str} {t:Tok} (hz:Q31 z = true):Begins (.str z t) { cls:=.type "str_ascii_iterator",data:=.fields #[.str z t,.int 0 0] } (fun _=>True) :=
 ⟨fun prog w A E s Q h k=>wpAny_pyIter_ascii hz k,fun h h' _ _=>trivial,rfl⟩
theorem Q51 {prog:Program} {w:World} {A:Around} {E:Value → Shared → Prop} {s:Shared} {z:Str} {t:Tok} {b:Addr} {ys:Array Value} {Q:Value → Shared → Prop} (hz:Q31 z = true) (h2:s.heap.IsTuple b ys)
  (q:∀ (h':Heap),IsZip h' (s.heap.objs.size + 4) (s.heap.objs.size + 2) (s.heap.objs.size + 3) Value.none →
   IsTupOf2 h' (s.heap.objs.size + 2) (Value.ref s.heap.objs.size) (Value.ref (s.heap.objs.size + 1)) →
   IsTupOf2 h' (s.heap.objs.size + 3) Value.none Value.none →
   h'.IsStrIter s.heap.objs.size "str_ascii_iterator" z t 0 → h'.IsTupleIter (s.heap.objs.size + 1) b 0 →
   h'.objs.size = s.heap.objs.size + 5 → (∀ (c:Addr) (o:Obj),s.heap.get? c = some o → h'.get? c = some o) →
   Q (Value.ref (s.heap.objs.size + 4)) { heap:=h',gens:=s.gens,drawn:=s.drawn,toks:=s.toks,os:=s.os }) :
  wpAny (model prog w) A (call (Value.type "zip") [.str z t,Value.ref b]) Q E s:=by
 refine callType_new F.called_zip (by decide) (F.typeCall_zip_2 (.str z t) (Value.ref b)) (F.newCall_zip_2 (.str z t) (Value.ref b)) (fun obj=>F.args_object_init_3 obj (.str z t) (Value.ref b)) F.entry_zip_new (meets_zip_newB2 (Q43 (t:=t) hz) (Q45 (b:=b) (its:=ys))) ⟨⟨trivial,h2⟩,?_⟩
 generalize ho1:({ cls:=.type "str_ascii_iterator",data:=.fields #[.str z t,.int 0 0] }:Obj) = o1
 generalize ho2:({ cls:=.type "tuple_iterator",data:=.fields #[.ref b,.int 0 0] }:Obj) = o2
 have f1:o1.isFreed = false:=by subst ho1; rfl
 have f2:o2.isFreed = false:=by subst ho2; rfl
 have z1:(s.heap.push o1).objs.size = s.heap.objs.size + 1:=Heap.size_push _ _
 have z2:((s.heap.push o1).push o2).objs.size = s.heap.objs.size + 2:=by rw [Heap.size_push,z1]
 have z3:(gzT2 s.heap o1 o2).objs.size = s.heap.objs.size + 3:=by
  unfold gzT2
  rw [Heap.size_push,z2]
 have z4:(gzO2 s.heap o1 o2).objs.size = s.heap.objs.size + 4:=by
  unfold gzO2
  rw [Heap.size_push,z3]
 have z5:(gzZ2 s.heap o1 o2).objs.size = s.heap.objs.size + 5:=by
  unfold gzZ2
  rw [Heap.size_push,z4]
 have g5:IsZip (gzZ2 s.heap o1 o2) (s.heap.objs.size + 4) (s.heap.objs.size + 2) (s.heap.objs.size + 3) Value.none:=by
  have:=Heap.get?_push_size (gzO2 s.heap o1 o2) (o:={ cls:=Value.type "zip",data:=Data.fields #[Value.none,Value.bool false,Value.bool false,Value.ref ((s.heap.push o1).push o2).objs.size,Value.ref (gzT2 s.heap o1 o2).objs.size] }) rfl
  rw [z4] at this
  show (gzZ2 s.heap o1 o2).get? (s.heap.objs.size + 4) = _
  rw [← z2,← z3]
  exact this
 have g4:IsTupOf2 (gzZ2 s.heap o1 o2) (s.heap.objs.size + 3) Value.none Value.none:=by
  rw [← z3]
  exact Heap.get?_push_of_some _ (Heap.get?_push_size _ rfl)
 have g3:IsTupOf2 (gzZ2 s.heap o1 o2) (s.heap.objs.size + 2) (Value.ref s.heap.objs.size) (Value.ref (s.heap.objs.size + 1)):=by
  rw [← z2,← z1]
  exact Heap.get?_push_of_some _ (Heap.get?_push_of_some _ (Heap.get?_push_size _ rfl))
 have g2:(gzZ2 s.heap o1 o2).get? (s.heap.objs.size + 1) = some o2:=by
  rw [← z1]
  exact Heap.get?_push_of_some _ (Heap.get?_push_of_some _ (Heap.get?_push_of_some _ (Heap.get?_push_size _ f2)))
 have g1:(gzZ2 s.heap o1 o2).get? s.heap.objs.size = some o1:=Heap.get?_push_of_some _ (Heap.get?_push_of_some _ (Heap.get?_push_of_some _ (Heap.get?_push_of_some _ (Heap.get?_push_size _ f1))))
 show ({ heap:=gzZ2 s.heap o1 o2,gens:=s.gens,drawn:=s.drawn,toks:=s.toks,os:=s.os }:Shared).TypeIs (Value.ref (gzO2 s.heap o1 o2).objs.size) "zip" ∧ Q (Value.ref (gzO2 s.heap o1 o2).objs.size) _
 rw [z4]
 refine ⟨⟨_,g5,rfl⟩,q _ g5 g3 g4 ⟨o1,g1,?_⟩ ⟨o2,g2,?_⟩ z5 fun c o e=>Heap.get?_push_of_some _ (Heap.get?_push_of_some _ (Heap.get?_push_of_some _ (Heap.get?_push_of_some _ (Heap.get?_push_of_some _ e))))⟩
 ·subst ho1; exact ⟨rfl,rfl⟩
 ·subst ho2; exact ⟨rfl,rfl⟩
def ItS (K:PySem.W.Frag) (z:Str) (b:Addr):It where
 go:=fun i H=>∃ ys c y,z.cps[i]? = some c ∧ SqT K H b ys ∧ ys[i]? = some y
 yld:=fun i H v H'=>∃ T c y,v = V.ref T ∧ H T = none ∧ H' = upd H T (HO.tup [.str ⟨#[c]⟩,y]) ∧ z.cps[i]? = some c ∧ ∀ ys,SqT K H b ys → ys[i]? = some y
 stop:=fun i H=>∃ ys,SqT K H b ys ∧ i ≤ z.cps.size ∧ i ≤ ys.length ∧ (i = z.cps.size ∨ i = ys.length)
theorem nn {a b:Nat} (h:a < b ∨ b < a):a ≠ b:=fun e=>by omega
structure Zap (z TI TO i1 i2:Addr):Prop where
 a:TI ≠ z
 b:TO ≠ z
 c:TI ≠ TO
 d:TI ≠ i1
 e:TI ≠ i2
 f:z ≠ i1
 g:z ≠ i2
 h:TO ≠ i1
 i:TO ≠ i2
 j:i1 ≠ i2
theorem Q5d {P:Program} {w:World} {K:PySem.W.Frag} {elts:List Expr} {kk:Nat} {tpos:Pos} {z:Str} {t:Tok} {b zz TI TO i1 i2:Addr} (hz:Q31 z = true) (ap:Zap zz TI TO i1 i2) (bb:b ≠ zz ∧ b ≠ TO ∧ b ≠ i1 ∧ b ≠ i2) :
  Turn P w K (.Tuple elts kk tpos) (ItS K z b) [zz,TI,TO,i1,i2] zz fun i h=>IsZip h zz TI TO Value.none ∧ IsTupOf2 h TI (Value.ref i1) (Value.ref i2) ∧ (∃ x y,IsTupOf2 h TO x y) ∧ h.IsStrIter i1 "str_ascii_iterator" z t i ∧ h.IsTupleIter i2 b i:=by
 have sep:ZipSep2 zz TI TO i1 i2 [i1] [i2,b]:=⟨ap.a,ap.b,ap.c,ap.d,by simp,by simp [ap.f],by simp [ap.h],ap.e,by simp,by simp [ap.g,bb.1.symm],by simp [ap.i,bb.2.1.symm],by simp [ap.j,bb.2.2.1.symm],by simp [ap.j.symm]⟩
 refine ⟨by simp,fun i h T c hc=>?_,fun i h h' T k=>?_,fun X hP hw hK hc i pins s σ H E I fo T go=>?_,fun X hP hw hK hc i pins s σ H E I fo T st=>?_,fun A i s Q E T k=>wpAny_pyIter_zip T.1 k⟩
 ·obtain ⟨t1,t2,⟨x,y,t3⟩,⟨o4,t4,_,d4⟩,⟨o5,t5,_,d5⟩⟩:=T
  simp only [Q7,Qa,or_false] at hc
  rcases hc with rfl | rfl | rfl | rfl | rfl
  ·exact ⟨_,t1,fun v e=>by cases e⟩
  ·exact ⟨_,t2,fun v e=>by cases e⟩
  ·exact ⟨_,t3,fun v e=>by cases e⟩
  ·exact ⟨_,t4,fun v e=>by rw [d4] at e; cases e⟩
  ·exact ⟨_,t5,fun v e=>by rw [d5] at e; cases e⟩
 ·obtain ⟨t1,t2,⟨x,y,t3⟩,⟨o4,t4,d4⟩,⟨o5,t5,d5⟩⟩:=T
  exact ⟨k zz (by simp) _ t1,k TI (by simp) _ t2,⟨x,y,k TO (by simp) _ t3⟩,⟨o4,k i1 (by simp) _ t4,d4⟩,⟨o5,k i2 (by simp) _ t5,d5⟩⟩
 ·subst hP hw hK
  obtain ⟨t1,t2,⟨x,y,t3⟩,t4,t5⟩:=T
  obtain ⟨ys,c,y',g1,g2,g3⟩:=go
  obtain ⟨its,rv,tp,hn⟩:=I.tuple g2
  obtain ⟨u,hu,ru⟩:=rv.get g3
  have hd:X.A.in1.handled = none:=I.ok.hd hc
  have n1:i < z.cps.size:=(Array.getElem?_eq_some_iff.mp g1).1
  have n2:i < its.toArray.size:=by
   have:=(Qg.mp hu).1
   simpa using this
  refine wpAny_pyNext_zipD2_item sep (Draws.strAscii hd i1 z t) (Draws.tuple hd i2 b bb.2.2.2 its.toArray) t1 t2 t3 t4 ⟨t5,tp⟩ n1 n2 fun x1 x2 h' tk p1 p2 q1 q2 q3 q4 q5 q6 q7=>⟨_,rfl,?_⟩
  obtain ⟨c',u1,e1,rfl⟩:=p1
  rw [g1] at e1
  cases e1
  rw [List.getElem?_toArray,hu] at p2
  cases p2
  refine wpAny_letOwnedTupleGo_zip q1 fun h'' r1 r2=>?_
  have same:∀ c:Addr,c ≠ zz → h''.get? c = h'.get? c:=r2.2
  have lt:∀ c:Addr,c ∈ [zz,TI,TO,i1,i2] → c < s.heap.objs.size:=fun c hc=>by
   simp only [Q7,Qa,or_false] at hc
   obtain ⟨o4,t4',_⟩:=t4
   obtain ⟨o5,t5',_⟩:=t5
   rcases hc with rfl | rfl | rfl | rfl | rfl
   ·exact Heap.lt_size t1
   ·exact Heap.lt_size t2
   ·exact Heap.lt_size t3
   ·exact Heap.lt_size t4'
   ·exact Heap.lt_size t5'
  have nz:=lt zz (by simp)
  have hT:h''.get? s.heap.objs.size = some { cls:=.type "tuple",data:=.seq #[.str ⟨#[c]⟩ u1,u] }:=by
   rw [same _ (nn (.inr nz))]
   exact q5
  have fresh:H s.heap.objs.size = none:=I.hok.fresh (Q5 _)
  have I2:L2.Inv X pins σ (upd H s.heap.objs.size (.tup [.str ⟨#[c]⟩,y'])) { heap:=h'',gens:=s.gens,drawn:=s.drawn,toks:=tk,os:=s.os }:=by
   refine Inv.turnedNew (ch:=[zz,TI,TO,i1,i2]) I (fun b' o nb e=>?_) fo (Q5 _) ⟨by simp [sizeLine],[.str ⟨#[c]⟩ u1,u],.cons ⟨u1,rfl⟩ (.cons ru .nil),_,hT,rfl,0,rfl⟩
   simp only [Q7,Qa,or_false,not_or] at nb
   rw [same _ nb.1]
   exact q7 b' o nb.1 nb.2.2.1 nb.2.2.2.1 nb.2.2.2.2 e
  refine ⟨V.ref s.heap.objs.size,_,I2,rfl,⟨_,c,y',rfl,fresh,rfl,g1,fun ws hw=>?_⟩,⟨r1,?_,⟨.str ⟨#[c]⟩ u1,u,?_⟩,?_,?_⟩,fun b' hb=>?_⟩
  ·rw [I.tuple_inj hw g2]; exact g3
  ·rw [IsTupOf2,same _ ap.a]
   exact q7 TI _ ap.a ap.c ap.d ap.e t2
  ·rw [IsTupOf2,same _ ap.b]
   exact q2
  ·obtain ⟨o,e1,e2⟩:=q3
   exact ⟨o,by rw [same _ ap.f.symm]; exact e1,e2⟩
  ·obtain ⟨⟨o,e1,e2⟩,_⟩:=q4
   exact ⟨o,by rw [same _ ap.g.symm]; exact e1,e2⟩
  ·have:=lt b' hb
   rw [upd_ne (nn (.inl this))]
   exact (fo b' hb).1
 ·subst hP hw hK
  obtain ⟨t1,t2,⟨x,y,t3⟩,t4,t5⟩:=T
  obtain ⟨ys,g2,s1,s2,s3⟩:=st
  obtain ⟨its,rv,tp,hn⟩:=I.tuple g2
  have hd:X.A.in1.handled = none:=I.ok.hd hc
  have el:its.toArray.size = ys.length:=by rw [Ja]; exact rv.length.symm
  refine wpAny_pyNext_zipD2_end sep (Draws.strAscii hd i1 z t) (Draws.tuple hd i2 b bb.2.2.2 its.toArray) t1 t2 t3 t4 ⟨t5,tp⟩ s1 (by omega) (by omega) fun h' tk q=>⟨rfl,?_⟩
  refine Inv.turnedL (ch:=[zz,TI,TO,i1,i2]) I (fun b' o nb e=>?_) fo
  simp only [Q7,Qa,or_false,not_or] at nb
  exact q b' o nb.1 nb.2.2.1 nb.2.2.2.1 nb.2.2.2.2 e
def Q9g (K:PySem.W.Frag) (ta:TA):TI:=fun σ H R=>ta σ H fun vs H1=>∃ z b ys,vs = [V.str z,V.ref b] ∧ Q31 z = true ∧ SqT K H1 b ys ∧ R (ItS K z b) H1
theorem Q7x {X:Cx} {e e2:Expr} {ta:TA} {p pos tpos:Pos} {elts:List Expr} {kk:Nat} (hg:Gl X "zip") (hm:X.mg "zip" = none) (ha:PA X [e,e2] ta) (hs:starEach [e,e2] X.env = (false,eval e X.env) :: starEach [e2] X.env) (hpl:((backTo pos (starEach [e2] X.env)).any fun x=>x.fst) = false):PI X (.Tuple elts kk tpos) (.Call (.Name "zip" p) [e,e2] [] pos) (Q9g X.K ta):=by
 refine ⟨fun pins s σ H R I h=>Call_ (ld_blt I hg hm boot_zip (callWith_type1 (thn (ha.run pos pins s σ H _ I h) fun us s1 ⟨vs,H1,I1,r1,z,b,ys,ex,hz,hb,q1⟩=>?_) hs hpl) (by decide) (by decide)) rfl⟩
 subst ex
 obtain ⟨its,rv,tp,hn⟩:=I1.tuple hb
 cases r1 with
 | cons ra r2 =>
  cases r2 with
  | cons rb r3 =>
   cases r3
   cases rb
   obtain ⟨t,rfl⟩:=ra
   obtain ⟨ob,eb,_⟩:=tp
   have lb:=Heap.lt_size eb
   have tp':s1.heap.IsTuple b its.toArray:=⟨ob,eb,by assumption⟩
   refine Q51 hz tp' fun h' g5 g3 g4 g1 g2 sz k=>?_
   refine wpAny_pyIter_zip g5 ?_
   have I2:L2.Inv X pins σ H1 { heap:=h',gens:=s1.gens,drawn:=s1.drawn,toks:=s1.toks,os:=s1.os }:=Inv.turnedL (ch:=[]) I1 (fun b o _ e=>k b o e) (fun b hb=>nomatch hb)
   refine ⟨_,[s1.heap.objs.size + 4,s1.heap.objs.size + 2,s1.heap.objs.size + 3,s1.heap.objs.size,s1.heap.objs.size + 1],_,ItS X.K z b,H1,rfl,I2,Q5d (t:=t) hz ⟨nn (by omega),nn (by omega),nn (by omega),nn (by omega),nn (by omega),nn (by omega),nn (by omega),nn (by omega),nn (by omega),nn (by omega)⟩ ⟨nn (.inl (Nat.lt_of_lt_of_le lb (Qz _ _))),nn (.inl (Nat.lt_of_lt_of_le lb (Qz _ _))),nn (.inl lb),nn (.inl (Nat.lt_of_lt_of_le lb (Qz _ _)))⟩,⟨g5,g3,⟨_,_,g4⟩,g1,g2⟩,fun c hc=>?_,q1⟩
   have:s1.heap.objs.size ≤ c:=by
    simp only [Q7,Qa,or_false] at hc
    rcases hc with rfl | rfl | rfl | rfl | rfl
    ·exact Qz _ _
    ·exact Qz _ _
    ·exact Qz _ _
    ·exact Q5 _
    ·exact Qz _ _
   exact I1.fpOk this (I1.hok.fresh this)
def Q1D (z:Str) (es:List D):List D:=(z.cps.toList.zip es).map fun p=>.tuple [.str ⟨#[p.1]⟩,p.2]
def Q2m (f:List Sl → Option (List D × List Sl)):List Sl → Option (List D × List Sl):=fun δ=>(f δ).bind fun p=>match p.1 with
 | [.str z,.tuple es]=>if Q31 z then some (Q1D z es,p.2) else none
 | _=>none
theorem Q7b {K:PySem.W.Frag} {G E:Hp} {z:Str} {b:Addr} {ys:List V} {es:List D} (h:SqT K E b ys) (r:Rps K G ys es):Wk K G E (ItS K z b) (Q1D z es):=by
 have hl:(Q1D z es).length = min z.cps.size es.length:=by simp [Q1D]
 refine ⟨fun i H hi s=>?_,fun i H x H' d s y e=>?_,fun H s=>?_⟩
 ·rw [hl] at hi
  have h1:i < z.cps.size:=by omega
  have h2:i < ys.length:=by rw [r.length]; omega
  exact ⟨ys,z.cps[i],ys[i],Array.getElem?_eq_getElem h1,Same.sqt s h,Qh h2⟩
 ·obtain ⟨T,c,y',rfl,nT,rfl,f,f'⟩:=y
  unfold Q1D at e
  rw [Qn] at e
  cases e1:(z.cps.toList.zip es)[i]? with
  | none=>rw [e1] at e; cases e
  | some w =>
   obtain ⟨d1,d2⟩:=w
   rw [e1] at e
   cases e
   obtain ⟨e2,e3⟩:=List.getElem?_zip_eq_some.mp e1
   obtain ⟨u,u1,u2⟩:=r.get e3
   have z2:=f' ys (Same.sqt s h)
   rw [u1] at z2
   cases z2
   rw [Array.getElem?_toList,f] at e2
   cases e2
   exact .inr ⟨T,_,_,nT,rfl,rfl,rfl,.cons (.str _) (.cons u2 .nil)⟩
 ·refine ⟨ys,Same.sqt s h,?_⟩
  rw [hl,r.length]
  omega
section
variable {X:Cx}
theorem Q4v {e e2:Expr} {f} {R M:List Nat} {p pos tpos:Pos} {elts:List Expr} {kk:Nat} (hg:Gl X "zip") (hm:X.mg "zip" = none) (h:AV X [e,e2] f R M) (hs:starEach [e,e2] X.env = [(false,eval e X.env),(false,eval e2 X.env)]:=by rfl) (hs2:starEach [e2] X.env = [(false,eval e2 X.env)]:=by rfl):IV X (.Tuple elts kk tpos) (.Call (.Name "zip" p) [e,e2] [] pos) (Q2m f) R M:=by
 obtain ⟨t,pe,q⟩:=h
 refine ⟨_,Q7x hg hm pe (hs.trans (by rw [hs2])) (by rw [hs2]; rfl),fun Y F H δ σ A S ds δ' e Q k=>?_⟩
 unfold Q2m at e
 cases e1:f δ with
 | none=>rw [e1] at e; cases e
 | some w =>
  obtain ⟨d,δ1⟩:=w
  rw [e1] at e
  simp only [Q1] at e
  split at e
  ·split at e
   ·cases e
    rename_i hz
    refine q Y F H δ σ A S _ _ e1 _ fun v F1 H1 st S1 r=>?_
    obtain ⟨v,u,rfl,r1,r2⟩:=r.two
    have r1':=r1.str
    subst r1'
    obtain ⟨b,ys,rfl,h0',h3,h4⟩:=r2.tup S1
    exact ⟨_,b,ys,rfl,hz,h3,k _ F1 H1 st S1 (Q7b (Same.sqt (Q05 S1) h0') h4)⟩
   ·cases e
  ·cases e
def upD:D → Option D
 | .str a=>if a.length ≤ 5592405 then some (.str (Txt.upper a)) else none
 | _=>none
theorem Q5G {o:Expr} {f:List Sl → Option (D × List Sl)} {R M:List Nat} {apos pos:Pos} (ho:EV X o f R M) (h1:attributeBase o "upper" X.env (eval o X.env) = eval o X.env:=by rfl) (h2:(apos.endLine == pos.line) = true:=by rfl):EV X (.Call (.Attribute o "upper" apos) [] [] pos) (f1 upD f) [] M:=by
 obtain ⟨t,pe,q⟩:=ho
 refine ⟨_,pe_upper pe h1 h2,fun Y F H δ σ A S z δ' e0 Q kk=>?_⟩
 obtain ⟨dd,e1,e2⟩:=Q1q e0
 refine q Y F H δ σ A S dd δ' e1 _ fun v F1 H1 st S1 r1=>?_
 unfold upD at e2
 split at e2
 ·split at e2
  ·cases e2
   rename_i hl
   have r1':=r1.str
   subst r1'
   exact ⟨⟨_,rfl⟩,_,rfl,rfl,hl,kk _ F1 H1 st S1 (.inl (.str _))⟩
  ·cases e2
 ·cases e2
end
end Z
namespace Z
open PySem PySem.Spec PyProof.Rows L2 He
structure KdS (w:World) (K:PySem.W.Frag) (mg:Str → Option Value) (x:Str) (hits:List (Str × Str)):Prop where
 ex:∃ (p:Addr) (es:Array DictEntry) (n:Nat),mg x = some (.ref p) ∧ KDict K w p es n ∧ (∀ z i,hits.lookup z = some i → ∃ t,PySem.W.nsIn K p z = some (some (.str i t))) ∧ ∀ z,hits.lookup z = none → PySem.W.nsIn K p z = some none
def Q3A (hits:List (Str × Str)) (z:Str) (d:D):D:=match hits.lookup z with
 | some s=>.str s
 | none=>d
def Q1R (hits:List (Str × Str)) (fk fd:List Sl → Option (D × List Sl)):List Sl → Option (D × List Sl):=fun δ=>(fk δ).bind fun q=>(fd q.2).bind fun r=>match q.1 with
 | .str z=>some (Q3A hits z r.1,r.2)
 | _=>none
def Q8m (K:PySem.W.Frag) (p:Addr) (ty tx:TE):TE:=fun σ H Q=>ty σ H fun y H2=>tx σ H2 fun zv H3=>∃ (z:Str) (r:Option Value),y = .str z ∧ PySem.W.nsIn K p z = some r ∧ ((r = none ∧ Q zv H3) ∨ ∃ u v0,r = some u ∧ L2.RelV v0 u ∧ Q v0 H3)
theorem Q6G {X:Cx} {x:Str} {np:Pos} {p:Addr} {es:Array DictEntry} {n:Nat} {e f:Expr} {apos cpos:Pos} {ty tx:TE} (D:KDict X.K X.w p es n) (ho:PE X (.Name x np) (tC (V.ref p))) (he:PE X e ty) (hf:PE X f tx) (m:M2 X (.Name x np) (Str.ofString "get") apos e f cpos):PE X (((Expr.Name x np).Attribute (Str.ofString "get") apos).Call [e,f] [] cpos) (Q8m X.K p ty tx):=by
 refine ⟨fun pins s σ H Q I h=>wpAny_Call_method m.base m.few m.line F.plainAttrs_dict F.slot_dict_get F.type_dict_get (thn (ho.run pins s σ H (fun v H1=>v = V.ref p ∧ H1 = H) I ⟨rfl,rfl⟩) fun u s1 ⟨v,H1,I1,rx,ev,eH⟩=>?_)⟩
 subst ev eH
 cases rx
 have at1:s1.heap.get? p = some { cls:=Value.type "dict",data:=Data.dict es n }:=I1.kIn _ _ D.at_
 refine ⟨⟨_,at1,rfl⟩,fun b e=>⟨_,by cases e; exact at1,rfl⟩,?_⟩
 rw [m.trees]
 refine Calls.callWith_builtin rfl (Calls.evalArgs_plain (Calls.spliced_cons (thn (he.run pins s1 σ H1 _ I1 h) fun iv s2 ⟨y,H2,I2,ry,q2⟩=>Calls.spliced_cons (thn (hf.run pins s2 σ H2 _ I2 q2) fun fv s3 ⟨z,H3,I3,rz,q3⟩=>Calls.spliced_nil ?_))))
 obtain ⟨zs,r,rfl,e,q⟩:=q3
 obtain ⟨t,rfl⟩:=ry
 have at3:s3.heap.get? p = some { cls:=Value.type "dict",data:=Data.dict es n }:=I3.kIn _ _ D.at_
 refine call_meetsIn F.slot_dict_get ⟨_,at3,rfl⟩ F.entry_dict_get (F.args_dict_get_3 (Value.ref p) (.str zs t) fv) (meets_dict_get_default (strKind X.prog X.w) p (strKind_is X.prog X.w zs t) D.low fv) ⟨_,PySem.W.mapOf_K I3.kIn D.at_ D.lit,?_⟩
 rw [PySem.W.find_K D.at_ e]
 rcases q with ⟨rfl,q⟩ | ⟨u,v0,rfl,r0,q⟩
 ·exact ⟨z,H3,I3.tok _,rz,q⟩
 ·exact ⟨v0,H3,I3.tok _,r0,q⟩
section
variable {X:Cx} {k d:Expr} {fk fd:List Sl → Option (D × List Sl)} {Rk Mk Md:List Nat} {np apos cpos:Pos} {x:Str} {hits:List (Str × Str)}
theorem Q6H (T:KdS X.w X.K X.mg x hits) (gl:Gl X x) (hk:EV X k fk Rk Mk) (hd:EV X d fd [] Md) (m:M2 X (.Name x np) "get" apos k d cpos) (db:(x == ("__debug__":Str)) = false:=by decide) (d3:∀ i ∈ Rk,i ∉ Md:=by decide):EV X (.Call (.Attribute (.Name x np) "get" apos) [k,d] [] cpos) (Q1R hits fk fd) [] (Mk ++ Md):=by
 obtain ⟨p,es,n,hp,hD,hh,hms⟩:=T.ex
 obtain ⟨tk,pk,qk⟩:=hk
 obtain ⟨td,pd,qd⟩:=hd
 refine ⟨_,Q6G hD (pe_glob (v:=V.ref p) gl hp rfl db) pk pd m,fun Y F H δ σ A S z δ' e0 Q kk=>?_⟩
 unfold Q1R at e0
 cases e2:fk δ with
 | none=>rw [e2] at e0; cases e0
 | some w2 =>
  obtain ⟨c,δ2⟩:=w2
  rw [e2] at e0
  simp only [Q1] at e0
  cases e3:fd δ2 with
  | none=>rw [e3] at e0; cases e0
  | some w3 =>
   obtain ⟨u,δ3⟩:=w3
   rw [e3] at e0
   simp only [Q1] at e0
   split at e0
   case h_2=>cases e0
   rename_i zs
   cases e0
   refine qk Y F H δ σ A S _ δ2 e2 _ fun y F2 H2 st2 S2 r2=>?_
   have ey:=r2.str
   subst ey
   refine qd Y F2 H2 δ2 σ A S2 u _ e3 _ fun w F3 H3 st3 S3 r3=>?_
   cases e4:hits.lookup zs with
   | none =>
    refine ⟨zs,none,rfl,hms zs e4,.inl ⟨rfl,kk _ F3 H3 (st2.trans S2 st3) S3 ?_⟩⟩
    unfold Q3A
    rw [e4]
    exact .inl r3.nil
   | some s =>
    obtain ⟨t,ht⟩:=hh zs s e4
    refine ⟨zs,_,rfl,ht,.inr ⟨_,.str s,rfl,⟨t,rfl⟩,kk _ F3 H3 (st2.trans S2 st3) S3 ?_⟩⟩
    unfold Q3A
    rw [e4]
    exact .inl (.str _)
end
section
variable {X:Cx} {x:Str} {p pos:Pos} {φ:List Sl → Option (D × List Sl)}
theorem Q1x (kn:Kn X x 0 .l φ):NV X (.Call (.Name x p) [] [] pos) (Xc [] true φ Yb) []:=by
 obtain ⟨CX,k,a,fd,ps,Fn,hn,hR,hm,hk,hb,hx⟩:=kn.ex
 refine ⟨_,Fn.pe0 kn.gd hR kn.gl hm hk hb hx kn.db,fun Y F H δ σ A S z δ' e Q kk=>?_⟩
 obtain ⟨as,δ1,outs,e1,ok,e2,oo,ef,rfl⟩:=Q1B e
 cases e1
 have r:ArR X.K F H A [] σ [] []:=trivial
 show spF X.K ps.length .l φ ([] ++ []) H Q E0
 rw [Qx]
 refine ⟨ex [] A F H,([]:List Ar).map (Q3t δ),Wl A [],by rw [List.map_nil,hn]; rfl,S.args ok r,z,outs,e2,fun v F2 H2 st2 S2 rv=>?_⟩
 have st2':=st2
 rw [hn] at st2'
 obtain ⟨st3,S3,sU⟩:=S.behind ok r st2' S2 oo
 rw [Q0B] at st3 S3
 obtain ⟨b,rfl,nb,fb,ob⟩:=rv
 exact kk b _ H2 st3 S3 nb fb ob
end
section
variable {X:Cx}
def eqE (d e:D):Option Bool:=match d,e with
 | .tuple xs,.tuple []=>some xs.isEmpty
 | d,e=>eqD d e
def neE (d e:D):Option Bool:=(eqE d e).map (!·)
theorem Zo {h:Heap} {u:Value} {ds:List D} {as:List Addr} (r:Reads h u (.tuple ds) as):∃ a items,u = .ref a ∧ h.IsTuple a items ∧ items.size = ds.length:=by
 cases r with
 | tuple ho hc hd hr =>
  refine ⟨_,_,rfl,⟨_,ho,hc,_,hd⟩,?_⟩
  have:=Kq hr
  rw [← this,Array.length_toList]
theorem Q38 (hu:X.A.units + 65 < cLine):Q1j X .Eq eqE:=by
 intro pins s σ H x y v u Q I rx ry G d e b sG r1 r2 hg q
 unfold eqE at hg
 split at hg
 ·rename_i xs
  cases hg
  obtain ⟨as,q1⟩:=Rp.reads I sG _ x v r1 rx
  obtain ⟨bs,q2⟩:=Rp.reads I sG _ y u r2 ry
  obtain ⟨a,its,rfl,l1,n1⟩:=Zo q1
  obtain ⟨b,its2,rfl,l2,n2⟩:=Zo q2
  have n2:its2.size = 0:=n2
  have hr:=SeqAt.RcAt.tuples (A:=X.A) (e:=fun _=>true) l1 l2 (by omega) (fun j h1 h2=>absurd h2 (by omega))
  have ev:((Qy (min its.size its2.size)).all (fun _=>true) && its.size == its2.size) = xs.isEmpty:=by
   rw [n1,n2]
   cases xs <;> simp
  rw [ev] at hr
  exact hr _ _ _ _ ⟨.bl _,H,I,rfl,q⟩
 ·exact K4 hu pins s σ H x y v u Q I rx ry G _ _ b sG r1 r2 hg q
theorem Q8P (hu:X.A.units + 65 < cLine):Q1j X .NotEq neE:=by
 intro pins s σ H x y v u Q I rx ry G d e b sG r1 r2 hg q
 unfold neE eqE at hg
 split at hg
 ·rename_i xs
  cases hg
  obtain ⟨as,q1⟩:=Rp.reads I sG _ x v r1 rx
  obtain ⟨bs,q2⟩:=Rp.reads I sG _ y u r2 ry
  obtain ⟨a,its,rfl,l1,n1⟩:=Zo q1
  obtain ⟨b,its2,rfl,l2,n2⟩:=Zo q2
  have n2:its2.size = 0:=n2
  have hr:=SeqAt.RcNeAt.tuples (A:=X.A) (e:=fun _=>true) l1 l2 (by omega) (fun j h1 h2=>absurd h2 (by omega))
  have ev:((Qy (min its.size its2.size)).all (fun _=>true) && its.size == its2.size) = xs.isEmpty:=by
   rw [n1,n2]
   cases xs <;> simp
  rw [ev] at hr
  exact hr _ _ _ _ ⟨.bl _,H,I,rfl,q⟩
 ·exact Q1f hu pins s σ H x y v u Q I rx ry G _ _ b sG r1 r2 hg q
end
section
variable {X:Cx}
def Q3e (d e:D):Option D:=match d,e with
 | .int a,.bool b=>some (.int (a - if b = true then (1:Int) else 0))
 | _,_=>Q3J d e
def rIB:R2:=fun x y H Q=>∃ a b,x = .int a ∧ y = .bl b ∧ Q (.int (a - if b = true then (1:Int) else 0)) H
theorem Q9R:OpR X (binaryOp .Sub) rIB:=by
 intro pins s σ H x y v u Q I rx ry h
 obtain ⟨a,b,rfl,rfl,q⟩:=h
 cases ry
 obtain ⟨t',rfl⟩:=rx
 exact PySem.IntBool.sub_int_bool ⟨.int _,H,I.tok _,⟨_,rfl⟩,q⟩
theorem Q6V:OpR X (binaryOp .Sub) (fun x y H Q=>(rI0 fun i j=>.int (i - j)) x y H Q ∨ rIB x y H Q):=op_sub.or Q9R
theorem Q7w:OpS X (fun x y H Q=>(rI0 fun i j=>.int (i - j)) x y H Q ∨ rIB x y H Q) Q3e:=by
 intro Y F H δ σ A R x y d e z S rx ry hg Q k
 unfold Q3e at hg
 split at hg
 ·rename_i a b
  cases hg
  exact .inr ⟨a,b,rx.int,ry.bl,k _ F H Stp.refl S (.int _)⟩
 ·exact .inl (Q16 Y F H δ σ A R x y d e z S rx ry hg Q k)
def Q36:D → Option D
 | .bool b=>some (.str (if b = true then ("True":Str) else "False"))
 | d=>Q8V d
def Q83:List V → Hp → VK → Prop:=fun xs H Q=>Q5F xs H Q ∨ ∃ b,xs = [.bl b] ∧ Q (.str (if b = true then ("True":Str) else "False")) H
theorem Q7c:CallR X (.type "str") Q83:=CallR.or Q8d (by
 intro pins s σ H xs us Q I r h
 obtain ⟨b,rfl,q⟩:=h
 obtain ⟨u,rfl,ru⟩:=vals1 r
 cases ru
 exact P.str_of_bool ⟨.str _,H,I.tok _,⟨_,rfl⟩,q⟩)
theorem Q6X:Q0z X Q83 (g1 Q36):=by
 intro Y F H δ σ A R xs ds z S r hg Q k
 obtain ⟨d,rfl,hg'⟩:=W7 hg
 obtain ⟨v,rfl,rv⟩:=r.one
 have hg2:=hg'
 unfold Q36 at hg'
 split at hg'
 ·cases hg'
  exact .inr ⟨_,by rw [rv.bl],k _ F H Stp.refl S (.str _)⟩
 ·exact .inl (Q8e Y F H δ σ A R [v] _ z S r (by unfold g1; exact hg') Q k)
end
theorem RpK.keys {K:PySem.W.Frag} {G:Hp}:∀ {kvs:List (Key × V)} {ds:List (D × D)},RpK K G kvs ds → Rps K G (kvs.map fun kv=>kV kv.1) (ds.map (·.1))
 | _,_,.nil=>.nil
 | _,_,.cons (k:=k) h r=>by
  rw [Qp,Qp]
  refine .cons ?_ r.keys
  cases k with
  | inl i=>exact .int i
  | inr x=>exact .str x
def Q2D:D → Option D
 | .dict ds=>some (.list (ds.map (·.1)))
 | _=>none
def Q6a:List V → Hp → VK → Prop:=fun xs H Q=>∃ (a:Addr) (kvs:List (Key × V)),xs = [.ref a] ∧ Rd H a (.dK kvs) ∧ ∀ p,H p = none → Q (.ref p) (upd H p (.lst (kvs.map fun kv=>kV kv.1)))
theorem Q67 {X:Cx} (hc:X.calm = true):CallR X (.type "list") Q6a:=call_listD hc
theorem Q65 {X:Cx}:Q5O X Q6a (g1 Q2D):=by
 intro Y F H δ σ A R xs ds z S r hg Q k
 obtain ⟨d,rfl,hg'⟩:=W7 hg
 obtain ⟨v,rfl,rv⟩:=r.one
 unfold Q2D at hg'
 split at hg'
 ·cases hg'
  obtain ⟨a,ob,kvs,rfl,h1,r1⟩:=rv.dict S
  exact ⟨a,kvs,rfl,.inr ⟨ob,h1⟩,fun p hp=>k p F _ (Stp.laidO hp) (S.laidO hp) hp (S.sub.free hp) ⟨_,upd_same,r1.keys⟩⟩
 ·cases hg'
theorem Q8A {K:PySem.W.Frag} {p:Addr} {z s:Str} (h:kdS K p z s = true):∃ t,PySem.W.nsIn K p z = some (some (.str s t)):=by
 unfold kdS at h
 split at h
 ·rename_i j t q
  have:=eq_of_beq h
  subst this
  exact ⟨t,q⟩
 ·cases h
theorem Q4O {P:Params}:∀ {es:List DictEntry} {ks:List Str} {z:Str},es.map He.keyOf = He.keysIn P ks → z ∉ ks → es.find? (fun e=>e.key.isStr z) = none ∧ (es.any fun e=>e.refKey) = false
 | [],ks,z,_,_=>⟨rfl,rfl⟩
 | e :: es,[],z,h,_=>by cases h
 | e :: es,k :: ks,z,h,nz=>by
  obtain ⟨h1,h2⟩:=List.cons.inj h
  obtain ⟨i1,i2⟩:=Q4O h2 fun q=>nz (Q9 _ q)
  have ek:∃ t,e.key = .str k t:=by
   unfold He.keyOf at h1
   split at h1
   ·rename_i x t q
    have:=(Prod.mk.inj (J2.inj h1)).1
    subst this
    exact ⟨t,q⟩
   ·cases h1
  obtain ⟨t,ek⟩:=ek
  have n1:e.key.isStr z = false:=by
   rw [ek]
   show (k == z) = false
   exact beq_eq_false_iff_ne.mpr fun q=>nz (by rw [q]; exact Qd ..)
  have n2:e.refKey = false:=by
   unfold DictEntry.refKey
   rw [ek]
  refine ⟨?_,?_⟩
  ·rw [List.find?_cons_of_neg (by rw [n1]; simp)]
   exact i1
  ·rw [List.any_cons,n2,i2]
   rfl
theorem Q79 {K:PySem.W.Frag} {P:Params} {p:Addr} {ks:List Str} {z:Str} (hd:dicW K p = some (keysIn P ks)) (nz:z ∉ ks):PySem.W.nsIn K p z = some none:=by
 unfold dicW at hd
 split at hd
 ·rename_i e
  split at hd
  ·obtain ⟨i1,i2⟩:=Q4O (J2.inj hd) nz
   unfold PySem.W.nsIn
   rw [e]
   simp only [i1,i2]
   rfl
  ·cases hd
 ·cases hd
theorem Q8I {w:World} {K:PySem.W.Frag} {mg:Str → Option Value} {x:Str} {p:Addr} {ks:List Str} {hits:List (Str × Str)} (hp:mg x = some (.ref p)) (hd:dicW K p = some (keysIn w.params ks)) (hh:(hits.all fun h=>kdS K p h.1 h.2) = true) (hk:ks = hits.map (·.1)):KdS w K mg x hits:=by
 obtain ⟨es,n,kd⟩:=dicW_ok (w:=w) hd
 refine ⟨p,es,n,hp,kd,fun z i hl=>?_,fun z hz=>Q79 hd ?_⟩
 ·have:(z,i) ∈ hits:=by
   clear hh hk hd
   induction hits with
   | nil=>cases hl
   | cons h r ih =>
    rw [List.lookup_cons] at hl
    split at hl
    ·rename_i c
     cases hl
     have:=eq_of_beq c
     subst this
     exact Qd ..
    ·exact Q9 _ (ih hl)
  exact Q8A (Qi.mp hh _ this)
 ·subst hk
  intro q
  obtain ⟨h,h1,rfl⟩:=List.mem_map.mp q
  clear hh hd q
  induction hits with
  | nil=>cases h1
  | cons g r ih =>
   rw [List.lookup_cons] at hz
   split at hz
   ·cases hz
   ·rename_i c
    rcases Q7.mp h1 with rfl | h1
    ·simp at c
    ·exact ih h1 hz
theorem zwalkF {l:PySem.W.OpenLaw} {n k:Nat} {q:Program} {loose:List Str} {XP:(Str → Option Value) → Heap → Prop} {YP:World → Heap → Prop} {d:DefRec} {φ:List Sl → Option (D × List Sl)} {x:Str}
  (hi:importsNone q = true) (hn:l.most = some n) (hn2:n ≤ sizeLine) (hdf:d.params.defaults = []) (hr:Room k callerA)
  (Fn:∀ (w:World) (mg:Str → Option Value) (fa:Addr) (h:Heap),YP w h → h.Ns mainGlobals mg → mg d.name = some (.ref fa) → ∃ K:PySem.W.Frag,K.In h ∧
   ∃ fd:FuncData,(∀ (s:Shared) (u:Value),BindsTo s fd ⟨[u],[]⟩ [(x,u)]) ∧ ∀ base:Heap,K.In base → base.Ns mainGlobals mg → (∃ o,base.get? sysModules = some o) → FnG l.prog w K mg base CX0 k fa fd [x] (spF K 1 .n φ))
  (hφ:∀ ns:List Int,ns.length ≤ n → ∃ outs,φ [.scr ns] = some (.bool true,outs)) :
  PySem.W.WalkO q loose XP YP l.row.toRowW d [] (fun f vs=>PySem.call f vs):=by
 refine Att.attach_call hn hdf fun w s0 s1 mg mb fa o pm cd doc a vs ns G Y ho hd hcd hmg hobj hints hlen hg=>?_
 obtain ⟨K,KX,fd,hb,hF⟩:=Fn w mg fa _ Y G.T.g hmg
 exact Q93 KX G.T.g G.T.b G.T.builtins G.T.nolimit hg hobj hints (Qj hlen hn2) hr (let ⟨mm,x,_⟩:=(G.T.seer hi).mods; ⟨mm,x⟩) hF hb (hφ ns hlen)
end Z
namespace Z
open PySem PySem.Spec PyProof.Rows L2



end Z
namespace Z
open PySem PySem.Spec PyProof.Rows L2

end Z
namespace Z
open PySem PySem.Spec PyProof.Rows L2


end Z
namespace Z
open PySem PySem.Spec PyProof.Rows L2





end Z
namespace Z
open PySem PySem.Spec PyProof.Rows L2

end Z
namespace Z
open PySem PySem.Spec PyProof.Rows L2

end Z
namespace Z
open PySem PySem.Spec PyProof.Rows L2

end Z
namespace Z
open PySem PySem.Spec PyProof.Rows L2
end Z
namespace Z
open PySem PySem.Spec PyProof.Rows L2

end Z
namespace Z
open PySem PySem.Spec PyProof.Rows L2

end Z
namespace Z
open PySem PySem.Spec PyProof.Rows L2
end Z
namespace Z
open PySem PySem.Spec PyProof.Rows L2

end Z
namespace Z
open PySem PySem.Spec PyProof.Rows L2
end Z
namespace Z
open PySem PySem.Spec PyProof.Rows L2
end Z
namespace Z
open PySem PySem.Spec PyProof.Rows L2
end Z
namespace Z
open PySem PySem.Spec PyProof.Rows L2

end Z
namespace Z
open PySem PySem.Spec PyProof.Rows L2
end Z
namespace Z
open PySem PySem.Spec PyProof.Rows L2

end Z
namespace Z
open PySem PySem.Spec PyProof.Rows L2

end Z
namespace Z
open PySem PySem.Spec PyProof.Rows L2
end Z
namespace Z
open PySem PySem.Spec PyProof.Rows L2
end Z
namespace Z
open PySem PySem.Spec PyProof.Rows L2
def kgQ (hits:List (Str × Str)) (z d:Str):Str:=(hits.lookup z).getD d
theorem Qa0 (hits:List (Str × Str)) (z d:Str):Q3A hits z (.str d) = .str (kgQ hits z d):=by
 unfold Q3A kgQ
 cases hits.lookup z <;> rfl
def Q2h (z:Str) (d:D):Option (List (Str × D)):=match d with
 | .tuple es=>if Q31 z then some ((z.cps.toList.zip es).map fun p=>(⟨#[p.1]⟩,p.2)) else none
 | _=>none
theorem Q7A {α β:Type} {e:α → D} {e':β → D} (xs:List (α × β)):g1 Q2D [eDi e e' xs] = some (eLi e (xs.map (·.1))):=by
 show some (PyData.list ((xs.map fun p=>(e p.1,e' p.2)).map (·.1))) = some (PyData.list ((xs.map (·.1)).map e))
 rw [List.map_map,List.map_map]
 rfl
section
variable {α:Type} {δ:List Sl} {hits:List (Str × Str)} {fa fb:Fe} {fr:Fs} {z d:Str} {o:Option α}
theorem Q6f {re:α → D × List Sl} {zz dd:α → Str} (h:VN fa δ o re) (he:∀ x,(re x).1 = .str (zz x)) (hd:∀ x,VP fb (re x).2 (.str (dd x))):VN (Q1R hits fa fb) δ o (fun x=>(.str (kgQ hits (zz x) (dd x)),(re x).2)):=fun x hx=>by
 unfold Q1R
 rw [h x hx,Q1,show fb (re x).2 = some (_,(re x).2) from hd x,Q1]
 dsimp only
 rw [he x]
 dsimp only
 rw [Qa0]
theorem Q7B {z:Str} {d:D} {v:List (Str × D)} (h:Q2h z d = some v):∃ es,d = .tuple es ∧ Q31 z = true ∧ Q1D z es = v.map (eP2 Q2 eD):=by
 unfold Q2h at h
 split at h
 ·split at h
  ·rename_i c
   cases h
   refine ⟨_,rfl,c,?_⟩
   unfold Q1D
   rw [List.map_map]
   rfl
  ·cases h
 ·cases h
theorem Q3L {r:α → List D × List Sl} {z:α → Str} {d:α → D} (h:AN fr δ o r) (hr:∀ x,(r x).1 = [.str (z x),d x]):AN (Q2m fr) δ (o.bind fun x=>(Q2h (z x) (d x)).map fun v=>(x,v)) (fun p=>(p.2.map (eP2 Q2 eD),(r p.1).2)):=fun p hp=>by
 obtain ⟨x,hx,hp⟩:=Y3 hp
 obtain ⟨v,hv,rfl⟩:=Kv hp
 obtain ⟨es,ed,c,e⟩:=Q7B hv
 unfold Q2m
 rw [h x hx,Q1,hr x,ed]
 dsimp only
 rw [if_pos c,e]
end
end Z
namespace Z
open PySem PySem.Spec PyProof.Rows L2
def Wt {α:Type} (o:Option α) (P:α → Prop):Prop:=∃ a,o = some a ∧ P a
variable {α β γ σ ι τ ρ:Type}
theorem Wt.mon {o:Option α} {P Q:α → Prop} (h:Wt o P) (q:∀ a,P a → Q a):Wt o Q:=by
 obtain ⟨a,e,p⟩:=h
 exact ⟨a,e,q a p⟩
theorem Xb {a:α} {P:α → Prop} (h:P a):Wt (some a) P:=⟨a,rfl,h⟩
theorem Js {o:Option α} {k:α → Option β} {P:β → Prop} (h:Wt o fun a=>Wt (k a) P):Wt (o.bind k) P:=by
 obtain ⟨a,rfl,b,e,p⟩:=h
 exact ⟨b,e,p⟩
theorem X9 {o:Option α} {k:α → β} {P:β → Prop} (h:Wt o fun a=>P (k a)):Wt (o.map k) P:=by
 obtain ⟨a,rfl,p⟩:=h
 exact ⟨_,rfl,p⟩
theorem Q4B {v:α} {k:α → Option β} {P:β → Prop} (h:Wt (k v) P):Wt (Q0a v k) P:=h
theorem Kf {c:Bool} {a b:Option α} {P:α → Prop} (h1:c = true → Wt a P) (h2:c = false → Wt b P):Wt (if c then a else b) P:=by
 cases c
 ·exact h2 rfl
 ·exact h1 rfl
theorem Wv {k:Dk} {M:Int} {P:Int × Dk → Prop} (hc:k.cs.length ≤ 63) (hM:0 < M) (hM2:M < 2 ^ 30) (h:∀ r k',0 ≤ r → r < M → k'.cs.length ≤ 63 → P (r,k')):Wt (Ww k M) P:=by
 obtain ⟨r,k',e,h1,h2,h3⟩:=Q5V k M hM hM2 hc
 exact ⟨_,e,h r k' h1 h2 h3⟩
theorem Q1M (xs:List α) (i:Int) (h0:0 ≤ i) (h1:i < xs.length):∃ h:i.toNat < xs.length,atI xs i = some (xs[i.toNat]'h):=by
 refine ⟨by omega,?_⟩
 unfold atI ixN
 rw [if_pos h0,if_pos h1]
 exact Qh _
theorem Q01 {xs:List α} {i:Int} {P:α → Prop} (h0:0 ≤ i) (h1:i < xs.length) (h:∀ x ∈ xs,P x):Wt (atI xs i) P:=by
 obtain ⟨c,e⟩:=Q1M xs i h0 h1
 exact ⟨_,e,h _ (List.getElem_mem _)⟩
theorem Q0Q:1000000 ≤ sizeLine:=Q63
theorem Q8c {xs ys:List α} {P:List α → Prop} (h0:xs.length + ys.length ≤ 1000000) (h:P (xs ++ ys)):Wt (Q19 xs ys) P:=⟨_,if_pos (Qj h0 Q0Q),h⟩
theorem Q1o {xs:List ι} {o:Option τ} {P:τ → Prop} (h0:xs.length ≤ 1000000) (h:Wt o P):Wt (K0 xs o) P:=by
 unfold K0
 rw [if_pos (Qj h0 Q0Q)]
 exact h
theorem Q7I {j:Int} {P:List Int → Prop} (h0:-1000000 ≤ j) (h1:j ≤ 1000000) (h:P (Q0d 0 j.toNat)):Wt (Q7G j) P:=⟨_,if_pos (Q3Y h0 h1),h⟩
theorem Q1n {step:ι → σ → Option (σ ⊕ ρ)} (I:σ → Prop) {P:σ ⊕ ρ → Prop}:∀ {xs:List ι} {s:σ},I s → (∀ x ∈ xs,∀ s,I s → Wt (step x s) fun w=>∃ s',w = .inl s' ∧ I s') → (∀ s,I s → P (.inl s)) → Wt (Q0U step xs s) P
 | [],s,h,_,q=>⟨_,rfl,q s h⟩
 | x :: xs,s,h,st,q=>by
  unfold Q0U
  refine Js ((st x (Qd ..) s h).mon fun w hw=>?_)
  obtain ⟨s',rfl,h'⟩:=hw
  exact Q1n I h' (fun y hy=>st y (Q9 _ hy)) q
theorem Q1p {f:ι → σ → Option (τ × σ)} {P:List τ × σ → Prop} (Q:τ → Prop) (I:List ι → σ → Prop):∀ {xs:List ι} {s:σ},I xs s → (∀ x xs s,I (x :: xs) s → Wt (f x s) fun p=>Q p.1 ∧ I xs p.2) → (∀ ys s,ys.length = xs.length → (∀ y ∈ ys,Q y) → I [] s → P (ys,s)) → Wt (Q1k f xs s) P
 | [],s,h,_,q=>⟨_,rfl,q [] s rfl (fun _ h=>nomatch h) h⟩
 | x :: xs,s,h,st,q=>by
  unfold Q1k
  refine Js ((st x xs s h).mon fun p hp=>X9 (Q1p Q I hp.2 st fun ys s' e a i=>?_))
  refine q _ _ (by simp [e]) (fun y hy=>?_) i
  rcases Q7.mp hy with rfl | hy
  ·exact hp.1
  ·exact a y hy
theorem Q6B [DecidableEq α] {xs:List (α × β)} {k:α} {v:β} (h:Kl xs k = some v):(k,v) ∈ xs:=by
 unfold Kl at h
 cases e:xs.find? (fun p=>decide (p.1 = k)) with
 | none=>rw [e] at h; cases h
 | some p =>
  rw [e] at h
  cases h
  have h1:=List.find?_some e
  have h2:=List.mem_of_find?_eq_some e
  have:p.1 = k:=of_decide_eq_true h1
  rw [← this]
  exact h2
theorem K6 (lo:Int) (n:Nat):(Q0d lo n).length = n:=by simp [Q0d]
theorem Q4r {xs:List α} {lo hi:Option Int} {x:α} (h:x ∈ Yy xs lo hi):x ∈ xs:=List.mem_of_mem_drop (List.mem_of_mem_take h)
end Z
namespace Z
open PySem PySem.Spec PyProof.Rows L2
end Z
namespace K32
open PySem PySem.Spec PyProof.Rows L2 Z
def top (i:Nat):Stmt:=PySem.Challenge.pw_soundstore_k32_what_is_a_deed.main.body.getD i (.Pass ⟨0,0,0,0⟩)
structure Txt (K:PySem.W.Frag) (mg:Str → Option Value) (base:Heap):Prop where
 hM:∃ o,base.get? sysModules = some o
 m_all:mg "all" = none
 m_bool:mg "bool" = none
 m_int:mg "int" = none
 m_isinstance:mg "isinstance" = none
 m_len:mg "len" = none
 m_list:mg "list" = none
 m_range:mg "range" = none
 m_repr:mg "repr" = none
 m_reversed:mg "reversed" = none
 m_str:mg "str" = none
 m_sum:mg "sum" = none
 m_tuple:mg "tuple" = none
 m_zip:mg "zip" = none
abbrev Zr:List (Str × Str):=[("folder", "pn"),("file", "pnw"),("write", "pw"),("link", "ppn"),("move", "ppn"),("drop", "p")]
section
variable {P:Program} {w:World} {K:PySem.W.Frag} {mg:Str → Option Value} {base:Heap}
abbrev Zd:Stmt:=top 2
theorem Q0k:FnScope ["thing"] ["thing"] (defScope Zd):=⟨rfl,rfl,rfl,by decide +kernel,rfl,by decide +kernel,by decide +kernel⟩
def Q3B:List Sl → Option Out:=Jp (Xu (Q2X (f1 (Z0 "int") (Jn 0)) (Q5a (f1 (Z0 "bool") (Jn 0))))) (Xf)
def Yw:List Sl → Option (D × List Sl):=fnF [false] 1 .n Q3B
theorem Q34 (T:Txt K mg base)  {f:Addr} {fd:FuncData} (Fu:Fun K "is_number" "is_number" Zd f fd) (m:mg "is_number" = some (.ref f)):GK P w K mg base "is_number" 1 1 .n Yw:=by
 refine ⟨f,fd,["thing"],Wf Fu Q0k rfl (fun cd A out s G E hG hr=>?_),rfl,m,Fu.kp,Fu.binds fun _ _ _ _ _ _ us hl=>match us,hl with | [_],_=>rfl⟩
 have S:=Q0k; have h1:=hu1 hr; have h65:=Zw hr; have h66:=Q0i hr; have h67:=Q0h hr
 exact Jj (Xa (Q4f (Yt (T := "int") rfl (bnk T.m_isinstance) (bnk T.m_int) (Jo 0)) (Q2M (Q6w (Yt (T := "bool") rfl (bnk T.m_isinstance) (bnk T.m_bool) (Jo 0)))))) (Jr)
abbrev Vp:Stmt:=top 3
theorem Zj:FnScope ["thing", "part"] ["thing"] (defScope Vp):=⟨rfl,rfl,rfl,by decide +kernel,rfl,by decide +kernel,by decide +kernel⟩
def Q24:List Sl → Option Out:=Jp (Xu (Q2X (f1 (Z0 "tuple") (Jn 0)) (fA (g1 Q7H) (Ji (fLc (.nm 1) [1] (fIt (Jn 0)) (Q2a) (Xc [] true Yw (X4 (Jn 1) (Yb)))) (Jt))))) (Xf)
def Va:List Sl → Option (D × List Sl):=fnF [false] 2 .n Q24
theorem Q1G (T:Txt K mg base) (k_is_number:GK P w K mg base "is_number" 1 1 .n Yw) {f:Addr} {fd:FuncData} (Fu:Fun K "are_numbers" "are_numbers" Vp f fd) (m:mg "are_numbers" = some (.ref f)):GK P w K mg base "are_numbers" 2 1 .n Va:=by
 refine ⟨f,fd,["thing"],Wf Fu Zj rfl (fun cd A out s G E hG hr=>?_),rfl,m,Fu.kp,Fu.binds fun _ _ _ _ _ _ us hl=>match us,hl with | [_],_=>rfl⟩
 have S:=Zj; have h1:=hu1 hr; have h65:=Zw hr; have h66:=Q0i hr; have h67:=Q0h hr
 exact Jj (Xa (Q4f (Yt (T := "tuple") rfl (bnk T.m_isinstance) (bnk T.m_tuple) (Jo 0)) (Q2M (Yf (bnk T.m_all) (cr_all rfl) Q8i (Jd (NV.ev (Q2k (own:=[("part",1)]) rfl S.nd (Q2J (Jo 0)) (Q0g (N:=["thing", "part"]) (sc:=defScope Vp) (by decide +kernel)) (fun _ _ _ _ _=>Y8 (tgk 1 S.nd)) (fun _ _ _ _ _=>Q0o) (fun _ _ _ _ _=>Y0 (k_is_number.kn hr hG) (X0 (Jo 1) (Xg))))) (Jm)))))) (Jr)
abbrev Q15:Stmt:=top 4
theorem Q1C:FnScope ["thing", "form", "sort", "part"] ["thing"] (defScope Q15):=⟨rfl,rfl,rfl,by decide +kernel,rfl,by decide +kernel,by decide +kernel⟩
def Q5l:List Sl → Option Out:=Jp (sIf (gOr (K3 (fun δ=>toB ((f1 (Z0 "tuple") (Jn 0)) δ))) (gOr (fun δ=>toB (f2 (bD eqE) (Jn 0) (Xo (Jt)) δ)) (K3 (fun δ=>toB ((f1 (Z0 "str") (f2 Xe (Jn 0) (Jl (.int 0)))) δ))))) (Jp (Xu (Jl (.bool false))) (Xf)) (Xf)) (Jp (Yr 1 (Q1R Zr (f2 Xe (Jn 0) (Jl (.int 0))) (Jl (.str "")))) (Jp (sIf (gOr (fun δ=>toB (f2 (bD eqD) (Jn 1) (Jl (.str "")) δ)) (fun δ=>toB (f2 (bD neD) (fA (g1 Vb) (Ji (Jn 0) (Jt))) (f2 X2 (Jl (.int 1)) (fA (g1 Vb) (Ji (Jn 1) (Jt)))) δ))) (Jp (Xu (Jl (.bool false))) (Xf)) (Xf)) (Jp (Q3s [2,3] (Kz (.cons (.nm 2) (.cons (.nm 3) (.nil))) (Q2m (Ji (Jn 1) (Ji (f3 Xj (Jn 0) (Vf (Jl (.int 1))) (Vr)) (Jt)))) (Jp (sIf (gOr (Q29 (fun δ=>toB (f2 (bD eqD) (Jn 2) (Jl (.str "n")) δ)) (K3 (fun δ=>toB (Xc [] true Yw (X4 (Jn 3) (Yb)) δ)))) (Q29 (fun δ=>toB (f2 (bD neD) (Jn 2) (Jl (.str "n")) δ)) (K3 (fun δ=>toB (Xc [] true Va (X4 (Jn 3) (Yb)) δ))))) (Jp (Xu (Jl (.bool false))) (Xf)) (Xf)) (Z5 [2,3])))) (Jp (Xu (Jl (.bool true))) (Xf)))))
def Vn:List Sl → Option (D × List Sl):=fnF [false] 4 .n Q5l
theorem Q4g (T:Txt K mg base) (k_FORMS:KdS w K mg "FORMS" Zr) (k_are_numbers:GK P w K mg base "are_numbers" 2 1 .n Va) (k_is_number:GK P w K mg base "is_number" 1 1 .n Yw) {f:Addr} {fd:FuncData} (Fu:Fun K "is_deed" "is_deed" Q15 f fd) (m:mg "is_deed" = some (.ref f)):GK P w K mg base "is_deed" 3 1 .n Vn:=by
 refine ⟨f,fd,["thing"],Wf Fu Q1C rfl (fun cd A out s G E hG hr=>?_),rfl,m,Fu.kp,Fu.binds fun _ _ _ _ _ _ us hl=>match us,hl with | [_],_=>rfl⟩
 have S:=Q1C; have h1:=hu1 hr; have h65:=Zw hr; have h66:=Q0i hr; have h67:=Q0h hr
 exact Jj (V0 (WV.tv (Ws (V3 (Y6 (Yt (T := "tuple") rfl (bnk T.m_isinstance) (bnk T.m_tuple) (Jo 0)))) (Ws (Xx (Q38 h65).op Xn (Jo 0) (Jy (Jm))) (Kk (V3 (Y6 (Yt (T := "str") rfl (bnk T.m_isinstance) (bnk T.m_str) (Xd h1 (Jo 0) (Jk))))))))) (Jj (Xa (V8)) (Jr)) (Jr)) (Jj (Xv rfl (tgk 1 S.nd) (Q6H k_FORMS rfl (Xd h1 (Jo 0) (Jk)) (Jz) ⟨rfl,rfl,rfl,rfl⟩)) (Jj (V0 (WV.tv (Ws (Xx (K4 h65).op Xn (Jo 1) (Jz)) (Kk (Xx (Q1f h65).op Xn (Yf (bnk T.m_len) Za Zi (Jd (Jo 0) (Jm))) (Jq Jw Jx (Jk) (Yf (bnk T.m_len) Za Zi (Jd (Jo 1) (Jm)))))))) (Jj (Xa (V8)) (Jr)) (Jr)) (Jj (Q11 rfl (Q13 (passes_of rfl) rfl (Q4v rfl T.m_zip (Jd (Jo 1) (Jd (Xr (Jo 0) (Y5 (Jk)) (Y4)) (Jm)))) (Q9H rfl (Q0v (Y8 (tgk 2 S.nd)) (Q0v (Y8 (tgk 3 S.nd)) (Q4w)))) (by decide) (Jj (V0 (WV.tv (Ws (WV.tv (Q2z (Xx (K4 h65).op Xn (Jo 2) (Jz)) (Q2Z (V3 (Y6 (Y0 (k_is_number.kn hr hG) (X0 (Jo 3) (Xg)))))))) (Kk (WV.tv (Q2z (Xx (Q1f h65).op Xn (Jo 2) (Jz)) (Q2Z (V3 (Y6 (Y0 (k_are_numbers.kn hr hG) (X0 (Jo 3) (Xg))))))))))) (Jj (Xa (V8)) (Jr)) (Jr)) (Wp rfl)))) (Jj (Xa (V8)) (Jr)))))
abbrev Zf:Stmt:=top 6
theorem Q0y:FnScope ["_law_script", "_law_cells"] ["_law_script"] (defScope Zf):=⟨rfl,rfl,rfl,by decide +kernel,rfl,by decide +kernel,by decide +kernel⟩
theorem Q3c (T:Txt K mg base) {f:Addr} {fd:FuncData} (Fu:Fun K "_law_deck" "_law_deck" Zf f fd) (m:mg "_law_deck" = some (.ref f)):GKD P w K mg base "_law_deck" 1:=by
 refine ⟨f,fd,["_law_script"],Q7m (f1:=f2 X2 (f2 Yq (fA (g1 Q4X) (Ji (fRd 1) (Jt))) (Jl (.int 2147483629))) (f2 Vs (Jl (.int 48271)) (fA (g1 Vb) (Ji (fRd 1) (Jt))))) Fu Q0y rfl (fun ns=>?_) (fun cd A out s G E hG hr=>?_),m,Fu.kp,Fu.binds fun _ _ _ _ _ _ us hl=>match us,hl with | [_],_=>rfl⟩
 ·exact Q7N ns
 ·have S:=Q0y; have h1:=hu1 hr; have h65:=Zw hr
  exact ⟨Q8q rfl (tgk 1 S.nd) (Q52 rfl rfl T.m_list rfl T.m_reversed (nmk 0) rfl rfl),Q81 (nmk 1) (Q2N (Jq Jw Jx (Jq op_mod Yk (Yf (bnk T.m_sum) (Q7E rfl) Q8w (Jd (Q3l 1) (Jm))) (Jk)) (Jq Vx W6 (Jk) (Yf (bnk T.m_len) Za Zi (Jd (Q3l 1) (Jm))))) (Q2N Jk Q5R))⟩
abbrev Z8:Stmt:=top 7
theorem Q0G:FnScope ["_law_deck_here", "_law_most", "_law_cell", "_law_number_here"] ["_law_deck_here", "_law_most"] (defScope Z8):=⟨rfl,rfl,rfl,by decide +kernel,rfl,by decide +kernel,by decide +kernel⟩
def Q3D:List Sl → Option Out:=Jp (Q5k 0 (f2 X2 (Q1U 0) (Jl (.int 1)))) (Jp (Yr 2 (Q4W (Q5i 0) (Q6j 0) (Q1F 0))) (Jp (sIf (fun δ=>toB (f2 (bD geD) (Jn 2) (f2 Q28 (Jl (.int 10)) (Jl (.int 18))) δ)) (Jp (Q5p (Q0F 0 (f2 Zk (Jn 2) (Jn 1)))) (Jp (Xu (f2 Yq (Jn 2) (Jn 1))) (Xf))) (Xf)) (Jp (Yr 3 (f2 Yq (f2 Vs (f2 X2 (f2 X2 (f2 Yq (Jn 2) (Jl (.int 2147483629))) (f2 Vs (Jl (.int 104729)) (Q1U 0))) (Jl (.int 1))) (Jl (.int 48271))) (Jl (.int 2147483647)))) (Jp (Yr 3 (f2 Yq (f2 X2 (f2 X2 (f2 Vs (Jn 3) (Jn 3)) (f2 Vs (Jl (.int 69621)) (Q1U 0))) (Jl (.int 7))) (Jl (.int 2147483587)))) (Jp (Xu (f2 Yq (f2 Zk (f2 Yq (f2 Vs (Jn 3) (f2 X2 (f2 Zk (Jn 3) (Jl (.int 3))) (Jl (.int 39373)))) (Jl (.int 2305843009213693951))) (Jl (.int 128))) (Jn 1))) (Xf))))))
def X6:List Sl → Option (D × List Sl):=fnF [true,false] 4 .n Q3D
theorem Q3a (T:Txt K mg base)  {f:Addr} {fd:FuncData} (Fu:Fun K "_law_draw" "_law_draw" Z8 f fd) (m:mg "_law_draw" = some (.ref f)):GK P w K mg base "_law_draw" 1 2 .n X6:=by
 refine ⟨f,fd,["_law_deck_here", "_law_most"],Wf Fu Q0G rfl (fun cd A out s G E hG hr=>?_),rfl,m,Fu.kp,Fu.binds fun _ _ _ _ _ _ us hl=>match us,hl with | [_,_],_=>rfl⟩
 have S:=Q0G; have h1:=hu1 hr; have h65:=Zw hr; have h66:=Q0i hr; have h67:=Q0h hr
 exact Jj (Q8L h1 (nmk 0) (Jq Jw Jx (Q40 h1 (nmk 0)) (Jk)) ⟨rfl,rfl,rfl,fun _=>rfl⟩) (Jj (Xv rfl (tgk 2 S.nd) (Q8B (Q8y h65 (nmk 0)) (Q8T h1 (nmk 0)) (Q5t h1 (nmk 0) (by intro _ _; rfl) ⟨rfl,rfl⟩))) (Jj (V0 (Xx Q9y.op Xn (Jo 2) (Jq op_pow Q48 (Jk) (Jk))) (Jj (Q9a (Q56 h1 (nmk 0) (by intro _ _; rfl) (Jq op_fdiv Q2S (Jo 2) (Jo 1)) ⟨rfl,rfl,rfl,rfl,rfl⟩)) (Jj (Xa (Jq op_mod Yk (Jo 2) (Jo 1))) (Jr))) (Jr)) (Jj (Xv rfl (tgk 3 S.nd) (Jq op_mod Yk (Jq Vx W6 (Jq Jw Jx (Jq Jw Jx (Jq op_mod Yk (Jo 2) (Jk)) (Jq Vx W6 (Jk) (Q40 h1 (nmk 0)))) (Jk)) (Jk)) (Jk))) (Jj (Xv rfl (tgk 3 S.nd) (Jq op_mod Yk (Jq Jw Jx (Jq Jw Jx (Jq Vx W6 (Jo 3) (Jo 3)) (Jq Vx W6 (Jk) (Q40 h1 (nmk 0)))) (Jk)) (Jk))) (Jj (Xa (Jq op_mod Yk (Jq op_fdiv Q2S (Jq op_mod Yk (Jq Vx W6 (Jo 3) (Jq Jw Jx (Jq op_fdiv Q2S (Jo 3) (Jk)) (Jk))) (Jk)) (Jk)) (Jo 1))) (Jr))))))
abbrev Ke:Stmt:=top 9
theorem Q00:FnScope [] [] (defScope Ke):=⟨rfl,rfl,rfl,by decide +kernel,rfl,by decide +kernel,by decide +kernel⟩
def Q2K:List Sl → Option Out:=Jp (Xu (Q2v (Ze (Jl (.str "folder")) (Jl (.str "pn")) (Ze (Jl (.str "file")) (Jl (.str "pnw")) (Ze (Jl (.str "write")) (Jl (.str "pw")) (Ze (Jl (.str "link")) (Jl (.str "ppn")) (Ze (Jl (.str "move")) (Jl (.str "ppn")) (Ze (Jl (.str "drop")) (Jl (.str "p")) (Q7L))))))))) (Xf)
def Xh:List Sl → Option (D × List Sl):=fnF [] 0 .l Q2K
theorem Q25 (T:Txt K mg base)  {f:Addr} {fd:FuncData} (Fu:Fun K "_law_forms" "_law_forms" Ke f fd) (m:mg "_law_forms" = some (.ref f)):GK P w K mg base "_law_forms" 1 0 .l Xh:=by
 refine ⟨f,fd,[],Wf Fu Q00 rfl (fun cd A out s G E hG hr=>?_),rfl,m,Fu.kp,Fu.binds fun _ _ _ _ _ _ us hl=>match us,hl with | [],_=>rfl⟩
 have S:=Q00; have h1:=hu1 hr; have h65:=Zw hr; have h66:=Q0i hr; have h67:=Q0h hr
 exact Jj (Q4y (Q4A (Kh (Jz) (Jz) (Kh (Jz) (Jz) (Kh (Jz) (Jz) (Kh (Jz) (Jz) (Kh (Jz) (Jz) (Kh (Jz) (Jz) (Q5W))))))))) (Jr)
abbrev Wz:Stmt:=top 10
theorem Zn:FnScope ["_law_deck_here", "_law_way"] ["_law_deck_here"] (defScope Wz):=⟨rfl,rfl,rfl,by decide +kernel,rfl,by decide +kernel,by decide +kernel⟩
def Q22:List Sl → Option Out:=Jp (Yr 1 (Xc [] true X6 (kIo 0 (X4 (Jl (.int 8)) (Yb))))) (Jp (Xu (f2 Xe (Vi (Ji (Jl (.int 0)) (Ji (Jl (.int 1)) (Ji (Jl (.int 99)) (Ji (Jl (.int 100)) (Ji (f1 Q50 (Jl (.int 1))) (Ji (Xc [] true X6 (kIo 0 (X4 (Jl (.int 100)) (Yb)))) (Ji (f2 X2 (Jl (.int 1)) (Xc [] true X6 (kIo 0 (X4 (Jl (.int 99)) (Yb))))) (Ji (f2 Q3J (f2 Q28 (Jl (.int 10)) (Jl (.int 39))) (Xc [] true X6 (kIo 0 (X4 (Jl (.int 9)) (Yb))))) (Jt)))))))))) (Jn 1))) (Xf))
def Ys:List Sl → Option (D × List Sl):=fnF [true] 2 .n Q22
theorem Q1y (T:Txt K mg base) (k__law_draw:GK P w K mg base "_law_draw" 1 2 .n X6) {f:Addr} {fd:FuncData} (Fu:Fun K "_law_number" "_law_number" Wz f fd) (m:mg "_law_number" = some (.ref f)):GK P w K mg base "_law_number" 2 1 .n Ys:=by
 refine ⟨f,fd,["_law_deck_here"],Wf Fu Zn rfl (fun cd A out s G E hG hr=>?_),rfl,m,Fu.kp,Fu.binds fun _ _ _ _ _ _ us hl=>match us,hl with | [_],_=>rfl⟩
 have S:=Zn; have h1:=hu1 hr; have h65:=Zw hr; have h66:=Q0i hr; have h67:=Q0h hr
 exact Jj (Xv rfl (tgk 1 S.nd) (Y0 (k__law_draw.kn hr hG) (Kw (nmk 0) (X0 (Jk) (Xg))))) (Jj (Xa (Xd h1 (NV.ev (Xw (Jd (Jk) (Jd (Jk) (Jd (Jk) (Jd (Jk) (Jd (Q35 (Jk)) (Jd (Y0 (k__law_draw.kn hr hG) (Kw (nmk 0) (X0 (Jk) (Xg)))) (Jd (Jq Jw Jx (Jk) (Y0 (k__law_draw.kn hr hG) (Kw (nmk 0) (X0 (Jk) (Xg))))) (Jd (Jq op_sub Q16 (Jq op_pow Q48 (Jk) (Jk)) (Y0 (k__law_draw.kn hr hG) (Kw (nmk 0) (X0 (Jk) (Xg))))) (Jm))))))))))) (Jo 1))) (Jr))
abbrev Wn:Stmt:=top 11
theorem Q0O:FnScope ["_law_deck_here", "_law_sort", "_law_most", "_law_k"] ["_law_deck_here", "_law_sort", "_law_most"] (defScope Wn):=⟨rfl,rfl,rfl,by decide +kernel,rfl,by decide +kernel,by decide +kernel⟩
def Q3y:List Sl → Option Out:=Jp (sIf (fun δ=>toB (f2 (bD eqD) (Jn 1) (Jl (.str "n")) δ)) (Jp (Xu (Xc [] true Ys (kIo 0 (Yb)))) (Xf)) (Xf)) (Jp (Xu (fA (g1 Q6P) (Ji (fLc (.nm 3) [3] (Q0j (Ji (Xc [] true X6 (kIo 0 (X4 (f2 X2 (Jn 2) (Jl (.int 1))) (Yb)))) (Jt))) (Q2a) (Xc [] true Ys (kIo 0 (Yb)))) (Jt)))) (Xf))
def W8:List Sl → Option (D × List Sl):=fnF [true,false,false] 4 .n Q3y
theorem Q2Q (T:Txt K mg base) (k__law_draw:GK P w K mg base "_law_draw" 1 2 .n X6) (k__law_number:GK P w K mg base "_law_number" 2 1 .n Ys) {f:Addr} {fd:FuncData} (Fu:Fun K "_law_part" "_law_part" Wn f fd) (m:mg "_law_part" = some (.ref f)):GK P w K mg base "_law_part" 3 3 .n W8:=by
 refine ⟨f,fd,["_law_deck_here", "_law_sort", "_law_most"],Wf Fu Q0O rfl (fun cd A out s G E hG hr=>?_),rfl,m,Fu.kp,Fu.binds fun _ _ _ _ _ _ us hl=>match us,hl with | [_,_,_],_=>rfl⟩
 have S:=Q0O; have h1:=hu1 hr; have h65:=Zw hr; have h66:=Q0i hr; have h67:=Q0h hr
 exact Jj (V0 (Xx (K4 h65).op Xn (Jo 1) (Jz)) (Jj (Xa (Y0 (k__law_number.kn hr hG) (Kw (nmk 0) (Xg)))) (Jr)) (Jr)) (Jj (Xa (Q1X (bnk T.m_tuple) Q3U Q3z (Jd (NV.ev (Q2k (own:=[("_law_k",3)]) rfl S.nd (Vo rfl T.m_range (Jd (Y0 (k__law_draw.kn hr hG) (Kw (nmk 0) (X0 (Jq Jw Jx (Jo 2) (Jk)) (Xg)))) (Jm)) rfl (Kb (Q0c))) (Q0g (N:=["_law_deck_here", "_law_sort", "_law_most", "_law_k"]) (sc:=defScope Wn) (by decide +kernel)) (fun _ _ _ _ _=>Y8 (tgk 3 S.nd)) (fun _ _ _ _ _=>Q0o) (fun _ _ _ _ _=>Y0 (k__law_number.kn hr hG) (Kw (nmk 0) (Xg))))) (Jm)))) (Jr))
abbrev Wq:Stmt:=top 12
theorem Q0J:FnScope ["_law_deck_here", "_law_word", "_law_most", "_law_sort"] ["_law_deck_here", "_law_word", "_law_most"] (defScope Wq):=⟨rfl,rfl,rfl,by decide +kernel,rfl,by decide +kernel,by decide +kernel⟩
def Q3i:List Sl → Option Out:=Jp (Xu (f2 X2 (Xo (Ji (Jn 1) (Jt))) (fA (g1 Q6P) (Ji (fLc (.nm 3) [3] (fIt (f2 Xe (Xc [] true Xh (Yb)) (Jn 1))) (Q2a) (Xc [] true W8 (kIo 0 (X4 (Jn 3) (X4 (Jn 2) (Yb)))))) (Jt))))) (Xf)
def W1:List Sl → Option (D × List Sl):=fnF [true,false,false] 4 .n Q3i
theorem Q32 (T:Txt K mg base) (k__law_forms:GK P w K mg base "_law_forms" 1 0 .l Xh) (k__law_part:GK P w K mg base "_law_part" 3 3 .n W8) {f:Addr} {fd:FuncData} (Fu:Fun K "_law_deed" "_law_deed" Wq f fd) (m:mg "_law_deed" = some (.ref f)):GK P w K mg base "_law_deed" 4 3 .n W1:=by
 refine ⟨f,fd,["_law_deck_here", "_law_word", "_law_most"],Wf Fu Q0J rfl (fun cd A out s G E hG hr=>?_),rfl,m,Fu.kp,Fu.binds fun _ _ _ _ _ _ us hl=>match us,hl with | [_,_,_],_=>rfl⟩
 have S:=Q0J; have h1:=hu1 hr; have h65:=Zw hr; have h66:=Q0i hr; have h67:=Q0h hr
 exact Jj (Xa (Jq Jw Jx (Jy (Jd (Jo 1) (Jm))) (Q1X (bnk T.m_tuple) Q3U Q3z (Jd (NV.ev (Q2k (own:=[("_law_sort",3)]) rfl S.nd (Q2J (Xd h1 (NV.ev (Q1x (k__law_forms.kn hr hG))) (Jo 1))) (Q0g (N:=["_law_deck_here", "_law_word", "_law_most", "_law_sort"]) (sc:=defScope Wq) (by decide +kernel)) (fun _ _ _ _ _=>Y8 (tgk 3 S.nd)) (fun _ _ _ _ _=>Q0o) (fun _ _ _ _ _=>Y0 (k__law_part.kn hr hG) (Kw (nmk 0) (X0 (Jo 3) (X0 (Jo 2) (Xg))))))) (Jm))))) (Jr)
abbrev Vm:Stmt:=top 13
theorem Wu:FnScope ["_law_thing"] ["_law_thing"] (defScope Vm):=⟨rfl,rfl,rfl,by decide +kernel,rfl,by decide +kernel,by decide +kernel⟩
def Q14:List Sl → Option Out:=Jp (Xu (Q2X (f1 (Z0 "int") (Jn 0)) (Q5a (f1 (Z0 "bool") (Jn 0))))) (Xf)
def Xz:List Sl → Option (D × List Sl):=fnF [false] 1 .n Q14
theorem Q0K (T:Txt K mg base)  {f:Addr} {fd:FuncData} (Fu:Fun K "_law_is_number" "_law_is_number" Vm f fd) (m:mg "_law_is_number" = some (.ref f)):GK P w K mg base "_law_is_number" 1 1 .n Xz:=by
 refine ⟨f,fd,["_law_thing"],Wf Fu Wu rfl (fun cd A out s G E hG hr=>?_),rfl,m,Fu.kp,Fu.binds fun _ _ _ _ _ _ us hl=>match us,hl with | [_],_=>rfl⟩
 have S:=Wu; have h1:=hu1 hr; have h65:=Zw hr; have h66:=Q0i hr; have h67:=Q0h hr
 exact Jj (Xa (Q4f (Yt (T := "int") rfl (bnk T.m_isinstance) (bnk T.m_int) (Jo 0)) (Q2M (Q6w (Yt (T := "bool") rfl (bnk T.m_isinstance) (bnk T.m_bool) (Jo 0)))))) (Jr)
abbrev V7:Stmt:=top 14
theorem Ky:FnScope ["_law_thing", "_law_form", "_law_sort", "_law_part_here", "_law_one"] ["_law_thing"] (defScope V7):=⟨rfl,rfl,rfl,by decide +kernel,rfl,by decide +kernel,by decide +kernel⟩
def Q1A:List Sl → Option Out:=Jp (sIf (gOr (K3 (fun δ=>toB ((f1 (Z0 "tuple") (Jn 0)) δ))) (gOr (fun δ=>toB (f2 (bD eqE) (Jn 0) (Xo (Jt)) δ)) (gOr (K3 (fun δ=>toB ((f1 (Z0 "str") (f2 Xe (Jn 0) (Jl (.int 0)))) δ))) (fun δ=>toB (f2 (bD Q2I) (f2 Xe (Jn 0) (Jl (.int 0))) (Xc [] true Xh (Yb)) δ))))) (Jp (Xu (Jl (.bool false))) (Xf)) (Xf)) (Jp (Yr 1 (f2 Xe (Xc [] true Xh (Yb)) (f2 Xe (Jn 0) (Jl (.int 0))))) (Jp (sIf (fun δ=>toB (f2 (bD neD) (fA (g1 Vb) (Ji (Jn 0) (Jt))) (f2 X2 (Jl (.int 1)) (fA (g1 Vb) (Ji (Jn 1) (Jt)))) δ)) (Jp (Xu (Jl (.bool false))) (Xf)) (Xf)) (Jp (Q3s [2,3] (Kz (.cons (.nm 2) (.cons (.nm 3) (.nil))) (Q2m (Ji (Jn 1) (Ji (f3 Xj (Jn 0) (Vf (Jl (.int 1))) (Vr)) (Jt)))) (Jp (sIf (fun δ=>toB (f2 (bD eqD) (Jn 2) (Jl (.str "n")) δ)) (Jp (sIf (K3 (fun δ=>toB (Xc [] true Xz (X4 (Jn 3) (Yb)) δ))) (Jp (Xu (Jl (.bool false))) (Xf)) (Xf)) (Xf)) (Jp (sIf (gOr (K3 (fun δ=>toB ((f1 (Z0 "tuple") (Jn 3)) δ))) (fun δ=>toB (f2 (bD neZ) (fLc (.nm 4) [4] (fIt (Jn 3)) (K3 (fun δ=>toB (Xc [] true Xz (X4 (Jn 4) (Yb)) δ))) (Jn 4)) (Vi (Jt)) δ))) (Jp (Xu (Jl (.bool false))) (Xf)) (Xf)) (Xf))) (Z5 [2,3])))) (Jp (Xu (Jl (.bool true))) (Xf)))))
def V1:List Sl → Option (D × List Sl):=fnF [false] 5 .n Q1A
theorem Q1i (T:Txt K mg base) (k__law_forms:GK P w K mg base "_law_forms" 1 0 .l Xh) (k__law_is_number:GK P w K mg base "_law_is_number" 1 1 .n Xz) {f:Addr} {fd:FuncData} (Fu:Fun K "_law_is_deed" "_law_is_deed" V7 f fd) (m:mg "_law_is_deed" = some (.ref f)):GK P w K mg base "_law_is_deed" 2 1 .n V1:=by
 refine ⟨f,fd,["_law_thing"],Wf Fu Ky rfl (fun cd A out s G E hG hr=>?_),rfl,m,Fu.kp,Fu.binds fun _ _ _ _ _ _ us hl=>match us,hl with | [_],_=>rfl⟩
 have S:=Ky; have h1:=hu1 hr; have h65:=Zw hr; have h66:=Q0i hr; have h67:=Q0h hr
 exact Jj (V0 (WV.tv (Ws (V3 (Y6 (Yt (T := "tuple") rfl (bnk T.m_isinstance) (bnk T.m_tuple) (Jo 0)))) (Ws (Xx (Q38 h65).op Xn (Jo 0) (Jy (Jm))) (Ws (V3 (Y6 (Yt (T := "str") rfl (bnk T.m_isinstance) (bnk T.m_str) (Xd h1 (Jo 0) (Jk))))) (Kk (Xx (Q6L h65).op Xn (Xd h1 (Jo 0) (Jk)) (NV.ev (Q1x (k__law_forms.kn hr hG))))))))) (Jj (Xa (V8)) (Jr)) (Jr)) (Jj (Xv rfl (tgk 1 S.nd) (Xd h1 (NV.ev (Q1x (k__law_forms.kn hr hG))) (Xd h1 (Jo 0) (Jk)))) (Jj (V0 (Xx (Q1f h65).op Xn (Yf (bnk T.m_len) Za Zi (Jd (Jo 0) (Jm))) (Jq Jw Jx (Jk) (Yf (bnk T.m_len) Za Zi (Jd (Jo 1) (Jm))))) (Jj (Xa (V8)) (Jr)) (Jr)) (Jj (Q11 rfl (Q13 (passes_of rfl) rfl (Q4v rfl T.m_zip (Jd (Jo 1) (Jd (Xr (Jo 0) (Y5 (Jk)) (Y4)) (Jm)))) (Q9H rfl (Q0v (Y8 (tgk 2 S.nd)) (Q0v (Y8 (tgk 3 S.nd)) (Q4w)))) (by decide) (Jj (V0 (Xx (K4 h65).op Xn (Jo 2) (Jz)) (Jj (V0 (V3 (Y6 (Y0 (k__law_is_number.kn hr hG) (X0 (Jo 3) (Xg))))) (Jj (Xa (V8)) (Jr)) (Jr)) (Jr)) (Jj (V0 (WV.tv (Ws (V3 (Y6 (Yt (T := "tuple") rfl (bnk T.m_isinstance) (bnk T.m_tuple) (Jo 3)))) (Kk (Xx (Q8W h65).op Xn (NV.ev (Q2k (own:=[("_law_one",4)]) rfl S.nd (Q2J (Jo 3)) (Q0g (N:=["_law_thing", "_law_form", "_law_sort", "_law_part_here", "_law_one"]) (sc:=defScope V7) (by decide +kernel)) (fun _ _ _ _ _=>Y8 (tgk 4 S.nd)) (fun _ _ _ _ _=>Q4F (V3 (Y6 (Y0 (k__law_is_number.kn hr hG) (X0 (Jo 4) (Xg)))))) (fun _ _ _ _ _=>Jo 4))) (NV.ev (Xw (Jm))))))) (Jj (Xa (V8)) (Jr)) (Jr)) (Jr))) (Wp rfl)))) (Jj (Xa (V8)) (Jr)))))
abbrev Ki:Stmt:=top 15
theorem Q03:FnScope ["_law_picks", "_law_thing", "_law_way", "_law_at", "_law_some", "_law_words", "_law_k"] ["_law_picks", "_law_thing"] (defScope Ki):=⟨rfl,rfl,rfl,by decide +kernel,rfl,by decide +kernel,by decide +kernel⟩
def Q2R:List Sl → Option Out:=Jp (Q0M 2 3 (Ji (f2 Yq (f2 Xe (Jn 0) (Jl (.int 0))) (Jl (.int 9))) (Ji (f2 Xe (Jn 0) (Jl (.int 1))) (Jt)))) (Jp (Yr 4 (Vi (Ji (Jl .none) (Ji (Jl (.bool true)) (Ji (Jl (.int 0)) (Ji (f1 Q50 (Jl (.int 7))) (Ji (Jl (.str "")) (Ji (Jl (.str "drop")) (Ji (Xo (Jt)) (Ji (Vi (Jt)) (Ji (Q6q) (Ji (Xo (Ji (Jl (.str "drop")) (Ji (Xo (Jt)) (Jt)))) (Ji (f2 Q28 (Jl (.int 10)) (Jl (.int 39))) (Ji (Jl (.str "file")) (Ji (Xo (Ji (Xo (Jt)) (Jt))) (Ji (Q2v (Ze (Jl (.int 0)) (Jl (.int 1)) (Q7L))) (Jt))))))))))))))))) (Jp (sIf (fun δ=>toB (f2 (bD eqD) (Jn 2) (Jl (.int 0)) δ)) (Jp (Xu (f2 Xe (Jn 4) (f2 Yq (Jn 3) (Jl (.int 14))))) (Xf)) (Xf)) (Jp (sIf (gOr (fun δ=>toB ((f1 (Z0 "bool") (Jn 1)) δ)) (fun δ=>toB ((f1 (Z0 "int") (Jn 1)) δ))) (Jp (Xu (f2 Xe (Vi (Ji (f2 Q3v (Jn 1) (Jl (.int 1))) (Ji (f2 (bD eqD) (Jn 1) (Jl (.int 1))) (Ji (fA (g1 Q36) (Ji (Jn 1) (Jt))) (Ji (Xo (Ji (Jn 1) (Jt))) (Ji (Vi (Ji (Jn 1) (Jt))) (Ji (Jl .none) (Ji (f2 Q3e (f1 Q50 (Jl (.int 1))) (Jn 1)) (Ji (Jl (.bool false)) (Jt)))))))))) (f2 Q3J (Jn 2) (Jl (.int 1))))) (Xf)) (Xf)) (Jp (sIf (fun δ=>toB ((f1 (Z0 "str") (Jn 1)) δ)) (Jp (Yr 5 (Vi (Ji (Jl (.str "folder")) (Ji (Jl (.str "file")) (Ji (Jl (.str "write")) (Ji (Jl (.str "link")) (Ji (Jl (.str "move")) (Ji (Jl (.str "drop")) (Ji (Jl (.str "drops")) (Ji (Jl (.str "")) (Jt))))))))))) (Jp (Xu (f2 Xe (Vi (Ji (f2 X2 (Jn 1) (Jl (.str "s"))) (Ji (f3 Xj (Jn 1) (Vr) (Vf (f1 Q50 (Jl (.int 1))))) (Ji (f1 upD (Jn 1)) (Ji (Xo (Ji (Jn 1) (Jt))) (Ji (Vi (Ji (Jn 1) (Jt))) (Ji (Jl (.int 3)) (Ji (f2 Xe (Jn 5) (f2 Yq (Jn 3) (Jl (.int 8)))) (Ji (f2 Xe (Jn 5) (f2 Yq (Jn 3) (Jl (.int 5)))) (Jt)))))))))) (f2 Q3J (Jn 2) (Jl (.int 1))))) (Xf))) (Z5 [5])) (Jp (sIf (gOr (K3 (fun δ=>toB ((f1 (Z0 "tuple") (Jn 1)) δ))) (fun δ=>toB (f2 (bD eqE) (Jn 1) (Xo (Jt)) δ))) (Jp (Xu (f2 Xe (Vi (Ji (Xo (Ji (Jl (.int 0)) (Jt))) (Ji (Vi (Jt)) (Ji (Jl .none) (Ji (Xo (Ji (Xo (Jt)) (Jt))) (Ji (Jl (.str "")) (Ji (Jl (.int 0)) (Ji (Q6q) (Ji (Xo (Ji (Jl (.bool true)) (Jt))) (Jt)))))))))) (f2 Q3J (Jn 2) (Jl (.int 1))))) (Xf)) (Xf)) (Jp (Yr 6 (f2 Yq (Jn 3) (fA (g1 Vb) (Ji (Jn 1) (Jt))))) (Jp (Yr 4 (Vi (Ji (f2 X2 (f3 Xj (Jn 1) (Vr) (Vf (Jn 6))) (f3 Xj (Jn 1) (Vf (f2 X2 (Jn 6) (Jl (.int 1)))) (Vr))) (Ji (f2 X2 (f3 Xj (Jn 1) (Vr) (Vf (f2 X2 (Jn 6) (Jl (.int 1))))) (f3 Xj (Jn 1) (Vf (Jn 6)) (Vr))) (Ji (f1 Q5j (Jn 1)) (Ji (fA (g1 Q2r) (Ji (Jn 1) (Jt))) (Ji (f2 Xe (Jn 1) (Jn 6)) (Jt)))))))) (Jp (Xu (f2 Xe (f2 X2 (Jn 4) (Vi (Ji (f2 X2 (Jn 1) (Xo (Ji (f2 Xe (Jn 1) (Jn 6)) (Jt)))) (Ji (f2 X2 (Jn 1) (Xo (Ji (Xo (Jt)) (Jt)))) (Ji (f2 X2 (f3 Xj (Jn 1) (Vf (Jn 6)) (Vr)) (f3 Xj (Jn 1) (Vr) (Vf (Jn 6)))) (Jt)))))) (f2 Q3J (Jn 2) (Jl (.int 1))))) (Xf)))))))))
def Yi:List Sl → Option (D × List Sl):=fnF [false,false] 7 .n Q2R
theorem Q23 (T:Txt K mg base)  {f:Addr} {fd:FuncData} (Fu:Fun K "_law_other" "_law_other" Ki f fd) (m:mg "_law_other" = some (.ref f)):GK P w K mg base "_law_other" 1 2 .n Yi:=by
 refine ⟨f,fd,["_law_picks", "_law_thing"],Wf Fu Q03 rfl (fun cd A out s G E hG hr=>?_),rfl,m,Fu.kp,Fu.binds fun _ _ _ _ _ _ us hl=>match us,hl with | [_,_],_=>rfl⟩
 have S:=Q03; have h1:=hu1 hr; have h65:=Zw hr; have h66:=Q0i hr; have h67:=Q0h hr
 exact Jj (Q2P rfl rfl rfl (tgk 2 S.nd) (tgk 3 S.nd) (by decide) rfl rfl (Jd (Jq op_mod Yk (Xd h1 (Jo 0) (Jk)) (Jk)) (Jd (Xd h1 (Jo 0) (Jk)) (Jm)))) (Jj (Xv rfl (tgk 4 S.nd) (NV.ev (Xw (Jd (Q3d) (Jd (V8) (Jd (Jk) (Jd (Q35 (Jk)) (Jd (Jz) (Jd (Jz) (Jd (Jy (Jm)) (Jd (NV.ev (Xw (Jm))) (Jd (NV.ev (Q30)) (Jd (Jy (Jd (Jz) (Jd (Jy (Jm)) (Jm)))) (Jd (Jq op_pow Q48 (Jk) (Jk)) (Jd (Jz) (Jd (Jy (Jd (Jy (Jm)) (Jm))) (Jd (NV.ev (Q4A (Kh (Jk) (Jk) (Q5W)))) (Jm)))))))))))))))))) (Jj (V0 (Xx (K4 h65).op Xn (Jo 2) (Jk)) (Jj (Xa (Xd h1 (Jo 4) (Jq op_mod Yk (Jo 3) (Jk)))) (Jr)) (Jr)) (Jj (V0 (WV.tv (Ws (Y6 (Yt (T := "bool") rfl (bnk T.m_isinstance) (bnk T.m_bool) (Jo 1))) (Kk (Y6 (Yt (T := "int") rfl (bnk T.m_isinstance) (bnk T.m_int) (Jo 1)))))) (Jj (Xa (Xd h1 (NV.ev (Xw (Jd (Jq Q78 Q7r (Jo 1) (Jk)) (Jd (Q61 (K4 h65).op Xn (Jo 1) (Jk)) (Jd (Q1X (bnk T.m_str) Q7c Q6X (Jd (Jo 1) (Jm))) (Jd (Jy (Jd (Jo 1) (Jm))) (Jd (NV.ev (Xw (Jd (Jo 1) (Jm)))) (Jd (Q3d) (Jd (Jq Q6V Q7w (Q35 (Jk)) (Jo 1)) (Jd (V8) (Jm))))))))))) (Jq op_sub Q16 (Jo 2) (Jk)))) (Jr)) (Jr)) (Jj (V0 (Y6 (Yt (T := "str") rfl (bnk T.m_isinstance) (bnk T.m_str) (Jo 1))) (Jj (Xv rfl (tgk 5 S.nd) (NV.ev (Xw (Jd (Jz) (Jd (Jz) (Jd (Jz) (Jd (Jz) (Jd (Jz) (Jd (Jz) (Jd (Jz) (Jd (Jz) (Jm)))))))))))) (Jj (Xa (Xd h1 (NV.ev (Xw (Jd (Jq Jw Jx (Jo 1) (Jz)) (Jd (Xr (Jo 1) (Y4) (Y5 (Q35 (Jk)))) (Jd (Q5G (Jo 1)) (Jd (Jy (Jd (Jo 1) (Jm))) (Jd (NV.ev (Xw (Jd (Jo 1) (Jm)))) (Jd (Jk) (Jd (Xd h1 (Jo 5) (Jq op_mod Yk (Jo 3) (Jk))) (Jd (Xd h1 (Jo 5) (Jq op_mod Yk (Jo 3) (Jk))) (Jm))))))))))) (Jq op_sub Q16 (Jo 2) (Jk)))) (Jr))) (Wp rfl)) (Jj (V0 (WV.tv (Ws (V3 (Y6 (Yt (T := "tuple") rfl (bnk T.m_isinstance) (bnk T.m_tuple) (Jo 1)))) (Kk (Xx (Q38 h65).op Xn (Jo 1) (Jy (Jm)))))) (Jj (Xa (Xd h1 (NV.ev (Xw (Jd (Jy (Jd (Jk) (Jm))) (Jd (NV.ev (Xw (Jm))) (Jd (Q3d) (Jd (Jy (Jd (Jy (Jm)) (Jm))) (Jd (Jz) (Jd (Jk) (Jd (NV.ev (Q30)) (Jd (Jy (Jd (V8) (Jm))) (Jm))))))))))) (Jq op_sub Q16 (Jo 2) (Jk)))) (Jr)) (Jr)) (Jj (Xv rfl (tgk 6 S.nd) (Jq op_mod Yk (Jo 3) (Yf (bnk T.m_len) Za Zi (Jd (Jo 1) (Jm))))) (Jj (Xv rfl (tgk 4 S.nd) (NV.ev (Xw (Jd (Jq Jw Jx (Xr (Jo 1) (Y4) (Y5 (Jo 6))) (Xr (Jo 1) (Y5 (Jq Jw Jx (Jo 6) (Jk))) (Y4))) (Jd (Jq Jw Jx (Xr (Jo 1) (Y4) (Y5 (Jq Jw Jx (Jo 6) (Jk)))) (Xr (Jo 1) (Y5 (Jo 6)) (Y4))) (Jd (Q7s (Jo 1)) (Jd (NV.ev (Q3x (bnk T.m_list) Q6W Q6U (Jd (Jo 1) (Jm)))) (Jd (Xd h1 (Jo 1) (Jo 6)) (Jm))))))))) (Jj (Xa (Xd h1 (Jq Jw Jx (Jo 4) (NV.ev (Xw (Jd (Jq Jw Jx (Jo 1) (Jy (Jd (Xd h1 (Jo 1) (Jo 6)) (Jm)))) (Jd (Jq Jw Jx (Jo 1) (Jy (Jd (Jy (Jm)) (Jm)))) (Jd (Jq Jw Jx (Xr (Jo 1) (Y5 (Jo 6)) (Y4)) (Xr (Jo 1) (Y4) (Y5 (Jo 6)))) (Jm))))))) (Jq op_sub Q16 (Jo 2) (Jk)))) (Jr)))))))))
abbrev Z6:Stmt:=top 16
theorem Q0P:FnScope ["_law_picks", "_law_thing", "_law_k", "_law_part_here", "_law_j", "_law_more"] ["_law_picks", "_law_thing"] (defScope Z6):=⟨rfl,rfl,rfl,by decide +kernel,rfl,by decide +kernel,by decide +kernel⟩
def Q3g:List Sl → Option Out:=Jp (sIf (gOr (fun δ=>toB (f2 (bD eqD) (f2 Yq (f2 Xe (Jn 0) (Jl (.int 2))) (Jl (.int 3))) (Jl (.int 0)) δ)) (gOr (K3 (fun δ=>toB ((f1 (Z0 "tuple") (Jn 1)) δ))) (fun δ=>toB (f2 (bD eqE) (Jn 1) (Xo (Jt)) δ)))) (Jp (Xu (Xc [] true Yi (X4 (Jn 0) (X4 (Jn 1) (Yb))))) (Xf)) (Xf)) (Jp (Yr 2 (f2 Yq (f2 Xe (Jn 0) (Jl (.int 3))) (fA (g1 Vb) (Ji (Jn 1) (Jt))))) (Jp (Yr 3 (f2 Xe (Jn 1) (Jn 2))) (Jp (sIf (Q29 (fun δ=>toB ((f1 (Z0 "tuple") (Jn 3)) δ)) (Q29 (fun δ=>toB (f2 (bD neE) (Jn 3) (Xo (Jt)) δ)) (fun δ=>toB (f2 (bD eqD) (f2 Yq (f2 Xe (Jn 0) (Jl (.int 2))) (Jl (.int 3))) (Jl (.int 1)) δ)))) (Jp (Yr 4 (f2 Yq (f2 Xe (Jn 0) (Jl (.int 4))) (fA (g1 Vb) (Ji (Jn 3) (Jt))))) (Jp (Yr 5 (f2 X2 (f2 X2 (f3 Xj (Jn 3) (Vr) (Vf (Jn 4))) (Xo (Ji (Xc [] true Yi (X4 (Jn 0) (X4 (f2 Xe (Jn 3) (Jn 4)) (Yb)))) (Jt)))) (f3 Xj (Jn 3) (Vf (f2 X2 (Jn 4) (Jl (.int 1)))) (Vr)))) (Jp (Xu (f2 X2 (f2 X2 (f3 Xj (Jn 1) (Vr) (Vf (Jn 2))) (Xo (Ji (Jn 5) (Jt)))) (f3 Xj (Jn 1) (Vf (f2 X2 (Jn 2) (Jl (.int 1)))) (Vr)))) (Xf)))) (Z5 [4,5])) (Jp (Xu (f2 X2 (f2 X2 (f3 Xj (Jn 1) (Vr) (Vf (Jn 2))) (Xo (Ji (Xc [] true Yi (X4 (Jn 0) (X4 (Jn 3) (Yb)))) (Jt)))) (f3 Xj (Jn 1) (Vf (f2 X2 (Jn 2) (Jl (.int 1)))) (Vr)))) (Xf)))))
def Ve:List Sl → Option (D × List Sl):=fnF [false,false] 6 .n Q3g
theorem Q2B (T:Txt K mg base) (k__law_other:GK P w K mg base "_law_other" 1 2 .n Yi) {f:Addr} {fd:FuncData} (Fu:Fun K "_law_bent" "_law_bent" Z6 f fd) (m:mg "_law_bent" = some (.ref f)):GK P w K mg base "_law_bent" 2 2 .n Ve:=by
 refine ⟨f,fd,["_law_picks", "_law_thing"],Wf Fu Q0P rfl (fun cd A out s G E hG hr=>?_),rfl,m,Fu.kp,Fu.binds fun _ _ _ _ _ _ us hl=>match us,hl with | [_,_],_=>rfl⟩
 have S:=Q0P; have h1:=hu1 hr; have h65:=Zw hr; have h66:=Q0i hr; have h67:=Q0h hr
 exact Jj (V0 (WV.tv (Ws (Xx (K4 h65).op Xn (Jq op_mod Yk (Xd h1 (Jo 0) (Jk)) (Jk)) (Jk)) (Ws (V3 (Y6 (Yt (T := "tuple") rfl (bnk T.m_isinstance) (bnk T.m_tuple) (Jo 1)))) (Kk (Xx (Q38 h65).op Xn (Jo 1) (Jy (Jm))))))) (Jj (Xa (Y0 (k__law_other.kn hr hG) (X0 (Jo 0) (X0 (Jo 1) (Xg))))) (Jr)) (Jr)) (Jj (Xv rfl (tgk 2 S.nd) (Jq op_mod Yk (Xd h1 (Jo 0) (Jk)) (Yf (bnk T.m_len) Za Zi (Jd (Jo 1) (Jm))))) (Jj (Xv rfl (tgk 3 S.nd) (Xd h1 (Jo 1) (Jo 2))) (Jj (V0 (WV.tv (Q2z (Y6 (Yt (T := "tuple") rfl (bnk T.m_isinstance) (bnk T.m_tuple) (Jo 3))) (Q2z (Xx (Q8P h65).op Xn (Jo 3) (Jy (Jm))) (Q2Z (Xx (K4 h65).op Xn (Jq op_mod Yk (Xd h1 (Jo 0) (Jk)) (Jk)) (Jk)))))) (Jj (Xv rfl (tgk 4 S.nd) (Jq op_mod Yk (Xd h1 (Jo 0) (Jk)) (Yf (bnk T.m_len) Za Zi (Jd (Jo 3) (Jm))))) (Jj (Xv rfl (tgk 5 S.nd) (Jq Jw Jx (Jq Jw Jx (Xr (Jo 3) (Y4) (Y5 (Jo 4))) (Jy (Jd (Y0 (k__law_other.kn hr hG) (X0 (Jo 0) (X0 (Xd h1 (Jo 3) (Jo 4)) (Xg)))) (Jm)))) (Xr (Jo 3) (Y5 (Jq Jw Jx (Jo 4) (Jk))) (Y4)))) (Jj (Xa (Jq Jw Jx (Jq Jw Jx (Xr (Jo 1) (Y4) (Y5 (Jo 2))) (Jy (Jd (Jo 5) (Jm)))) (Xr (Jo 1) (Y5 (Jq Jw Jx (Jo 2) (Jk))) (Y4)))) (Jr)))) (Wp rfl)) (Jj (Xa (Jq Jw Jx (Jq Jw Jx (Xr (Jo 1) (Y4) (Y5 (Jo 2))) (Jy (Jd (Y0 (k__law_other.kn hr hG) (X0 (Jo 0) (X0 (Jo 3) (Xg)))) (Jm)))) (Xr (Jo 1) (Y5 (Jq Jw Jx (Jo 2) (Jk))) (Y4)))) (Jr)))))
abbrev Kp:Stmt:=top 17
theorem Zy:FnScope ["_law_thing", "_law_kept", "_law_again", "_law_found"] ["_law_thing"] (defScope Kp):=⟨rfl,rfl,rfl,by decide +kernel,rfl,by decide +kernel,by decide +kernel⟩
def Q37:List Sl → Option Out:=Jp (Yr 1 (fA (g1 Ko) (Ji (Jn 0) (Jt)))) (Jp (Q3s [2,3] (Kz (.nm 2) (Q0j (Ji (Jl (.int 2)) (Jt))) (Jp (Yr 3 (Xc [] true Vn (X4 (Jn 0) (Yb)))) (Jp (sIf (gOr (K3 (fun δ=>toB ((f1 (Z0 "bool") (Jn 3)) δ))) (gOr (fun δ=>toB (f2 (bD neD) (Jn 3) (Xc [] true V1 (X4 (Jn 0) (Yb))) δ)) (fun δ=>toB (f2 (bD neD) (fA (g1 Ko) (Ji (Jn 0) (Jt))) (Jn 1) δ)))) (Jp (Xu (Jl (.bool false))) (Xf)) (Xf)) (Z5 [2,3]))))) (Jp (Xu (Jl (.bool true))) (Xf)))
def Yj:List Sl → Option (D × List Sl):=fnF [false] 4 .n Q37
theorem Q2c (T:Txt K mg base) (k__law_is_deed:GK P w K mg base "_law_is_deed" 2 1 .n V1) (k_is_deed:GK P w K mg base "is_deed" 3 1 .n Vn) {f:Addr} {fd:FuncData} (Fu:Fun K "_law_right" "_law_right" Kp f fd) (m:mg "_law_right" = some (.ref f)):GK P w K mg base "_law_right" 4 1 .n Yj:=by
 refine ⟨f,fd,["_law_thing"],Wf Fu Zy rfl (fun cd A out s G E hG hr=>?_),rfl,m,Fu.kp,Fu.binds fun _ _ _ _ _ _ us hl=>match us,hl with | [_],_=>rfl⟩
 have S:=Zy; have h1:=hu1 hr; have h65:=Zw hr; have h66:=Q0i hr; have h67:=Q0h hr
 exact Jj (Xv rfl (tgk 1 S.nd) (Yf (bnk T.m_repr) (Q3C hG h66 T.hM) Q3E (Jd (Jo 0) (Jm)))) (Jj (Q11 rfl (Q13 (passes_of rfl) rfl (Vo rfl T.m_range (Jd (Jk) (Jm)) rfl (Kb (Q0c))) (Y8 (tgk 2 S.nd)) (by decide) (Jj (Xv rfl (tgk 3 S.nd) (Y0 (k_is_deed.kn hr hG) (X0 (Jo 0) (Xg)))) (Jj (V0 (WV.tv (Ws (V3 (Y6 (Yt (T := "bool") rfl (bnk T.m_isinstance) (bnk T.m_bool) (Jo 3)))) (Ws (Xx (Q1f h65).op Xn (Jo 3) (Y0 (k__law_is_deed.kn hr hG) (X0 (Jo 0) (Xg)))) (Kk (Xx (Q1f h65).op Xn (Yf (bnk T.m_repr) (Q3C hG h66 T.hM) Q3E (Jd (Jo 0) (Jm))) (Jo 1)))))) (Jj (Xa (V8)) (Jr)) (Jr)) (Wp rfl))))) (Jj (Xa (V8)) (Jr)))
abbrev Zb:Stmt:=top 18
theorem Q0q:FnScope ["_law_row", "_law_lists", "_law_k"] [] (defScope Zb):=⟨rfl,rfl,rfl,by decide +kernel,rfl,by decide +kernel,by decide +kernel⟩
def Q3F:List Sl → Option Out:=Jp (Q0M 0 1 (Ji (Xo (Jt)) (Ji (Vi (Jt)) (Jt)))) (Jp (Q3s [2] (Kz (.nm 2) (Q0j (Ji (Jl (.int 27)) (Jt))) (Jp (Q0M 0 1 (Ji (Xo (Ji (Jn 0) (Jt))) (Ji (Vi (Ji (Jn 1) (Jt))) (Jt)))) (Z5 [2])))) (Jp (Xu (Vi (Ji (Xo (Ji (Jl (.str "drop")) (Ji (Jn 0) (Jt)))) (Ji (Xo (Ji (Jl (.str "drop")) (Ji (Jn 1) (Jt)))) (Ji (Jn 0) (Ji (Jn 1) (Jt))))))) (Xf)))
def W0:List Sl → Option (D × List Sl):=fnF [] 3 .l Q3F
theorem Q2W (T:Txt K mg base)  {f:Addr} {fd:FuncData} (Fu:Fun K "_law_deep" "_law_deep" Zb f fd) (m:mg "_law_deep" = some (.ref f)):GK P w K mg base "_law_deep" 1 0 .l W0:=by
 refine ⟨f,fd,[],Wf Fu Q0q rfl (fun cd A out s G E hG hr=>?_),rfl,m,Fu.kp,Fu.binds fun _ _ _ _ _ _ us hl=>match us,hl with | [],_=>rfl⟩
 have S:=Q0q; have h1:=hu1 hr; have h65:=Zw hr; have h66:=Q0i hr; have h67:=Q0h hr
 exact Jj (Q2P rfl rfl rfl (tgk 0 S.nd) (tgk 1 S.nd) (by decide) rfl rfl (Jd (Jy (Jm)) (Jd (NV.ev (Xw (Jm))) (Jm)))) (Jj (Q11 rfl (Q13 (passes_of rfl) rfl (Vo rfl T.m_range (Jd (Jk) (Jm)) rfl (Kb (Q0c))) (Y8 (tgk 2 S.nd)) (by decide) (Jj (Q2P rfl rfl rfl (tgk 0 S.nd) (tgk 1 S.nd) (by decide) rfl rfl (Jd (Jy (Jd (Jo 0) (Jm))) (Jd (NV.ev (Xw (Jd (Jo 1) (Jm)))) (Jm)))) (Wp rfl)))) (Jj (Q4y (Xw (Jd (Jy (Jd (Jz) (Jd (Jo 0) (Jm)))) (Jd (Jy (Jd (Jz) (Jd (Jo 1) (Jm)))) (Jd (Jo 0) (Jd (Jo 1) (Jm))))))) (Jr)))
abbrev Zg:Stmt:=top 19
theorem Q5H:FnScope ["_law_script", "_law_deck_here", "_law_words", "_law_turn", "_law_picks", "_law_deed_here", "_law_k", "_law_thing", "_law_again", "_law_some"] ["_law_script"] (defScope Zg):=⟨rfl,rfl,rfl,by decide +kernel,rfl,by decide +kernel,by decide +kernel⟩
def Q9z:List Sl → Option Out:=Jp (Q3r 1 0) (Jp (Yr 2 (fA (g1 Q2D) (Ji (Xc [] true Xh (Yb)) (Jt)))) (Jp (Q3s [3,4,5,6,7] (Kz (.nm 3) (Q0j (Ji (Jl (.int 6)) (Jt))) (Jp (Q3Q 4 (fLc (.nm 8) [8] (Q0j (Ji (Jl (.int 16)) (Jt))) (Q2a) (fLc (.nm 6) [6] (Q0j (Ji (Jl (.int 5)) (Jt))) (Q2a) (Xc [] true X6 (kIo 1 (X4 (Jl (.int 55440)) (Yb))))))) (Jp (Yr 5 (Xc [] true W1 (kIo 1 (X4 (f2 Xe (Jn 2) (f2 Yq (f2 X2 (Jn 3) (Xc [] true X6 (kIo 1 (X4 (Jl (.int 6)) (Yb))))) (Jl (.int 6)))) (X4 (f2 Xe (Vi (Ji (Jl (.int 12)) (Ji (Jl (.int 12)) (Ji (Jl (.int 12)) (Ji (Jl (.int 200)) (Jt)))))) (Xc [] true X6 (kIo 1 (X4 (Jl (.int 4)) (Yb))))) (Yb)))))) (Jp (sIf (fun δ=>toB (f2 (bD Q42) (Xc [] true Vn (X4 (Jn 5) (Yb))) (Jl (.bool true)) δ)) (Jp (Xu (Jl (.bool false))) (Xf)) (Xf)) (Jp (Q3s [6,7] (Kz (.nm 6) (Q0j (Ji (Jl (.int 8)) (Jt))) (Jp (Yr 7 (Xc [] true Ve (X4 (f2 Xe (fRd 4) (f2 Vs (Jl (.int 2)) (Jn 6))) (X4 (Jn 5) (Yb))))) (Jp (sIf (fun δ=>toB (f2 (bD eqD) (f2 Yq (f2 Xe (f2 Xe (fRd 4) (f2 Vs (Jl (.int 2)) (Jn 6))) (Jl (.int 4))) (Jl (.int 2))) (Jl (.int 1)) δ)) (Jp (Yr 7 (Xc [] true Ve (X4 (f2 Xe (fRd 4) (f2 X2 (f2 Vs (Jl (.int 2)) (Jn 6)) (Jl (.int 1)))) (X4 (Jn 7) (Yb))))) (Xf)) (Xf)) (Jp (sIf (K3 (fun δ=>toB (Xc [] true Yj (X4 (Jn 7) (Yb)) δ))) (Jp (Xu (Jl (.bool false))) (Xf)) (Xf)) (Z5 [6,7])))))) (Jp (sIf (K3 (fun δ=>toB (Xc [] true Yj (X4 (Jn 5) (Yb)) δ))) (Jp (Xu (Jl (.bool false))) (Xf)) (Xf)) (Z5 [3,4,5,6,7])))))))) (Jp (Yr 9 (Vi (Ji (Jl .none) (Ji (Jl (.bool true)) (Ji (Jl (.int 0)) (Ji (Jl (.str "drop")) (Ji (Jl (.str "")) (Ji (Xo (Jt)) (Ji (Vi (Jt)) (Ji (Q6q) (Ji (Xo (Ji (Jl (.str "drop")) (Jt))) (Ji (Xo (Ji (Jl (.str "drop")) (Ji (Xo (Jt)) (Jt)))) (Ji (Vi (Ji (Jl (.str "drop")) (Ji (Xo (Jt)) (Jt)))) (Ji (Xo (Ji (Jl (.str "drop")) (Ji (Xo (Jt)) (Ji (Xo (Jt)) (Jt))))) (Jt))))))))))))))) (Jp (Yr 9 (f2 X2 (f2 X2 (Jn 9) (Vi (Ji (Xo (Ji (Xo (Ji (Jl (.str "drop")) (Jt))) (Ji (Xo (Jt)) (Jt)))) (Ji (Xo (Ji (Jl (.str "drop")) (Ji (Xo (Ji (Jl (.int 0)) (Jt))) (Jt)))) (Ji (Xo (Ji (Jl (.str "write")) (Ji (Xo (Jt)) (Ji (Xo (Jt)) (Jt))))) (Jt)))))) (Xc [] true W0 (Yb)))) (Jp (Xu (f2 (bD eqZ) (fLc (.nm 7) [7] (fIt (Jn 9)) (K3 (fun δ=>toB (Xc [] true Yj (X4 (Jn 7) (Yb)) δ))) (Jn 7)) (Vi (Jt)))) (Xf))))))
def φ_law:List Sl → Option (D × List Sl):=fnF [false] 10 .n Q9z
theorem Q99 (T:Txt K mg base) (k__law_bent:GK P w K mg base "_law_bent" 2 2 .n Ve) (k__law_deck:GKD P w K mg base "_law_deck" 1) (k__law_deed:GK P w K mg base "_law_deed" 4 3 .n W1) (k__law_deep:GK P w K mg base "_law_deep" 1 0 .l W0) (k__law_draw:GK P w K mg base "_law_draw" 1 2 .n X6) (k__law_forms:GK P w K mg base "_law_forms" 1 0 .l Xh) (k__law_right:GK P w K mg base "_law_right" 4 1 .n Yj) (k_is_deed:GK P w K mg base "is_deed" 3 1 .n Vn) {f:Addr} {fd:FuncData} (Fu:Fun K "law" "law" Zg f fd):FnG P w K mg base CX0 5 f fd ["_law_script"] (spF K 1 .n φ_law):=by
 refine Wf Fu Q5H rfl fun cd A out s G E hG hr=>?_
 have S:=Q5H; have h1:=hu1 hr; have h65:=Zw hr; have h66:=Q0i hr; have h67:=Q0h hr
 exact Jj (Q7t rfl (tgk 1 S.nd) (nmk 0) (k__law_deck.kn hr hG)) (Jj (Xv rfl (tgk 2 S.nd) (NV.ev (Q3x (bnk T.m_list) (Q67 rfl) Q65 (Jd (NV.ev (Q1x (k__law_forms.kn hr hG))) (Jm))))) (Jj (Q11 rfl (Q13 (passes_of rfl) rfl (Vo rfl T.m_range (Jd (Jk) (Jm)) rfl (Kb (Q0c))) (Y8 (tgk 3 S.nd)) (by decide) (Jj (Q9k (own:=[("_law_again",8)]) rfl S.nd rfl rfl rfl (Vo rfl T.m_range (Jd (Jk) (Jm)) rfl (Kb (Q0c))) (Q0g (N:=["_law_script", "_law_deck_here", "_law_words", "_law_turn", "_law_picks", "_law_deed_here", "_law_k", "_law_thing", "_law_again", "_law_some"]) (sc:=defScope Zg) (by decide +kernel)) (fun _ _ _ _ _=>Y8 (tgk 8 S.nd)) (fun _ _ _ _ _=>Q0o) (fun _ _ _ _ _=>NV.ev (Q2k (own:=[("_law_k",6)]) rfl S.nd (Vo rfl T.m_range (Jd (Jk) (Jm)) rfl (Kb (Q0c))) (Q0g (N:=["_law_script", "_law_deck_here", "_law_words", "_law_turn", "_law_picks", "_law_deed_here", "_law_k", "_law_thing", "_law_again", "_law_some"]) rfl) (fun _ _ _ _ _=>Y8 (tgk 6 S.nd)) (fun _ _ _ _ _=>Q0o) (fun _ _ _ _ _=>Y0 (k__law_draw.kn hr hG) (Kw (nmk 1) (X0 (Jk) (Xg)))))) (by intro _; rfl) (by decide) (by decide) rfl) (Jj (Xv rfl (tgk 5 S.nd) (Y0 (k__law_deed.kn hr hG) (Kw (nmk 1) (X0 (Xd h1 (Jo 2) (Jq op_mod Yk (Jq Jw Jx (Jo 3) (Y0 (k__law_draw.kn hr hG) (Kw (nmk 1) (X0 (Jk) (Xg))))) (Jk))) (X0 (Xd h1 (NV.ev (Xw (Jd (Jk) (Jd (Jk) (Jd (Jk) (Jd (Jk) (Jm))))))) (Y0 (k__law_draw.kn hr hG) (Kw (nmk 1) (X0 (Jk) (Xg))))) (Xg)))))) (Jj (V0 (Xx Q6s.op Xn (Y0 (k_is_deed.kn hr hG) (X0 (Jo 5) (Xg))) (V8)) (Jj (Xa (V8)) (Jr)) (Jr)) (Jj (Q11 rfl (Q13 (passes_of rfl) rfl (Vo rfl T.m_range (Jd (Jk) (Jm)) rfl (Kb (Q0c))) (Y8 (tgk 6 S.nd)) (by decide) (Jj (Xv rfl (tgk 7 S.nd) (Y0 (k__law_bent.kn hr hG) (X0 (Xd h1 (Q3l 4) (Jq Vx W6 (Jk) (Jo 6))) (X0 (Jo 5) (Xg))))) (Jj (V0 (Xx (K4 h65).op Xn (Jq op_mod Yk (Xd h1 (Xd h1 (Q3l 4) (Jq Vx W6 (Jk) (Jo 6))) (Jk)) (Jk)) (Jk)) (Jj (Xv rfl (tgk 7 S.nd) (Y0 (k__law_bent.kn hr hG) (X0 (Xd h1 (Q3l 4) (Jq Jw Jx (Jq Vx W6 (Jk) (Jo 6)) (Jk))) (X0 (Jo 7) (Xg))))) (Jr)) (Jr)) (Jj (V0 (V3 (Y6 (Y0 (k__law_right.kn hr hG) (X0 (Jo 7) (Xg))))) (Jj (Xa (V8)) (Jr)) (Jr)) (Wp rfl)))))) (Jj (V0 (V3 (Y6 (Y0 (k__law_right.kn hr hG) (X0 (Jo 5) (Xg))))) (Jj (Xa (V8)) (Jr)) (Jr)) (Wp rfl)))))))) (Jj (Xv rfl (tgk 9 S.nd) (NV.ev (Xw (Jd (Q3d) (Jd (V8) (Jd (Jk) (Jd (Jz) (Jd (Jz) (Jd (Jy (Jm)) (Jd (NV.ev (Xw (Jm))) (Jd (NV.ev (Q30)) (Jd (Jy (Jd (Jz) (Jm))) (Jd (Jy (Jd (Jz) (Jd (Jy (Jm)) (Jm)))) (Jd (NV.ev (Xw (Jd (Jz) (Jd (Jy (Jm)) (Jm))))) (Jd (Jy (Jd (Jz) (Jd (Jy (Jm)) (Jd (Jy (Jm)) (Jm))))) (Jm)))))))))))))))) (Jj (Xv rfl (tgk 9 S.nd) (Jq Jw Jx (Jq Jw Jx (Jo 9) (NV.ev (Xw (Jd (Jy (Jd (Jy (Jd (Jz) (Jm))) (Jd (Jy (Jm)) (Jm)))) (Jd (Jy (Jd (Jz) (Jd (Jy (Jd (Jk) (Jm))) (Jm)))) (Jd (Jy (Jd (Jz) (Jd (Jy (Jm)) (Jd (Jy (Jm)) (Jm))))) (Jm))))))) (NV.ev (Q1x (k__law_deep.kn hr hG))))) (Jj (Xa (Q61 (Q8g h65).op Xn (NV.ev (Q2k (own:=[("_law_thing",7)]) rfl S.nd (Q2J (Jo 9)) (Q0g (N:=["_law_script", "_law_deck_here", "_law_words", "_law_turn", "_law_picks", "_law_deed_here", "_law_k", "_law_thing", "_law_again", "_law_some"]) (sc:=defScope Zg) (by decide +kernel)) (fun _ _ _ _ _=>Y8 (tgk 7 S.nd)) (fun _ _ _ _ _=>Q4F (V3 (Y6 (Y0 (k__law_right.kn hr hG) (X0 (Jo 7) (Xg)))))) (fun _ _ _ _ _=>Jo 7))) (NV.ev (Xw (Jm))))) (Jr))))))
end
end K32
namespace K32
open PySem PySem.Spec PyProof.Rows L2 Z
def Yu (thing:D):Option Bool:=(some ((Yz "int" thing) && (!(Yz "bool" thing))))
theorem Q1a (thing:D):∀ v,Yu thing = some v → Yw [.fz thing] = some ((Q4 v),[.fz thing]):=by
 exact Q0u (Yl (Q6n (Kd (Jf 0 rfl) (rfl)) (Q6r (Kd (Jf 0 rfl) (rfl)))) rfl)
def Vq (thing:D):Option Bool:=((if (Yz "tuple" thing) then (((((V9 thing)).bind fun v1=>(K0 v1 (Q2G (fun x2=>(Yu x2)) v1)).map fun v6=>(v1,v6))).map fun l5=>(l5.2.all id)) else some false)).bind fun b8=>(some b8)
theorem Q26 (thing:D):∀ v,Vq thing = some v → Va [.fz thing] = some ((Q4 v),[.fz thing]):=by
 exact Q0u (Yn (Q74 (v:=false) (Kd (Jf 0 rfl) (rfl)) (Q1s (r':=fun (c7:Bool)=>((Q4 c7),[.fz thing,.no])) (Q60 (Ju (Q39 (Q5N (q:=(V9 thing)) (z:=fun v=>List.map eD v) (Jf 0 rfl) (fun _ h=>Q5y _ _ h)) (fun v1=>(Q7Y (e:=eD) (e':=Q4) Q2o (fun x2=>(Wh 1)) (fun x2=>(Q9Z (X3 (X7 (Jf 1 rfl) X8) (Q1a _ )) (fun _=>rfl)))))) (fun l5=>Jh)) (fun l5=>Q9B _)) (fun _=>rfl)) rfl) (fun _=>rfl))
def Ka (thing:D):Option Bool:=((if (!(Yz "tuple" thing)) then some true else (((eqE thing ((eTu Q0) ([])))).bind fun v1=>if v1 then some true else (((Xe thing (Q0 0))).map fun v2=>(!(Yz "str" v2)))))).bind fun b6=>if b6 then (some false) else ((((Xe thing (Q0 0))).bind fun v7=>(asS v7).map fun c9=>(v7,c9))).bind fun c8=>Q0a (kgQ ([(("folder":Str),("pn":Str)),(("file":Str),("pnw":Str)),(("write":Str),("pw":Str)),(("link":Str),("ppn":Str)),(("move":Str),("ppn":Str)),(("drop":Str),("p":Str))]:List (Str × Str)) c8.2 ("":Str)) fun form_10=>((if (decide (form_10 = ("":Str))) then some true else ((((((Vb thing).bind asI)).bind fun v11=>((Q4c form_10)).map fun v12=>(v11,v12))).map fun b13=>(!decide (b13.1 = (1 + b13.2)))))).bind fun b15=>if b15 then (some false) else ((((Xj thing (some 1) none)).bind fun v16=>(Q2h form_10 v16).map fun v18=>(v16,v18))).bind fun v17=>(Q0U (fun x20 s19=>((((if (decide (x20.1 = ("n":Str))) then (((Yu x20.2)).map fun r21=>(!r21)) else some false)).bind fun b23=>if b23 then some true else (if (!decide (x20.1 = ("n":Str))) then (((Vq x20.2)).map fun r24=>(!r24)) else some false))).bind fun b28=>if b28 then (some (Sum.inr false)) else (some (Sum.inl ()))) v17.2 ()).bind (Sum.elim (fun s19=>(some true)) (fun v30=>(some v30)))
theorem Q2i (thing:D):∀ v,Ka thing = some v → Vn [.fz thing] = some ((Q4 v),[.fz thing]):=by
 exact Q0u (Jv (δ':=[.fz thing,.no,.no,.no]) (Vg (Q07 (v:=true) (Q0Y (Zv (Kd (Jf 0 rfl) (rfl)))) (Q0x (r':=fun (c5:Bool)=>(c5,[.fz thing,.no,.no,.no])) (Q0T (Vy (Xk (q:=(eqE thing ((eTu Q0) ([])))) (e:=Q4) (Jf 0 rfl) ((X1 Jh):VP _ _ ((eTu Q0) ([]))) (fun _ h=>Q3p _ _ h)) (fun _=>rfl)) (fun _=>rfl) (fun v1=>(K1 (r':=fun (c3:Bool)=>(c3,[.fz thing,.no,.no,.no])) (Km (Vy (Q9i (Xk (q:=(Xe thing (Q0 0))) (e:=eD) (Jf 0 rfl) (Jg:VP _ _ (.int 0)) (fun _ h=>h)) (fun v2=>rfl)) (fun _=>rfl))) (fun _=>rfl))) (fun _=>rfl)) (fun _=>rfl)) rfl) (fun _=>rfl) (fun b6=>(X5 (Yl (Jg:VP _ _ (.bool false)) rfl))) (fun b6=>(Xt (Q2H (e:=Q2) (Q6f (zz:=fun c8=>c8.2) (dd:=fun c8=>("":Str)) (Q5K (e:=Q2) (Xk (q:=(Xe thing (Q0 0))) (e:=eD) (Jf 0 rfl) (Jg:VP _ _ (.int 0)) (fun _ h=>h)) (fun _=>(Q5w) _)) (fun _=>rfl) (fun c8=>(Jg:VP _ _ (.str ("":Str))))) (fun _=>rfl) (fun c8 form_10=>(Jv (δ':=[.fz thing,.fz (Q2 form_10),.no,.no]) (Vg (Q07 (v:=true) (Zv (Vt (Jf 1 rfl) (Jg:VP _ _ (.str ("":Str))) (Q3b gS _ _))) (K1 (r':=fun (c14:Bool)=>(c14,[.fz thing,.fz (Q2 form_10),.no,.no])) (Vy (Ks (Xs (Zh (q:=((Vb thing).bind asI)) (e:=Q0) (Je (Jf 0 rfl) Jh) (fun _ h=>Q6J _ _ h)) (fun v11=>(Ju (Ks (Ye (Jg:VP _ _ (.int 1)) (Ju (Zh (q:=(Q4c form_10)) (e:=Q0) (Je (Jf 1 rfl) Jh) (fun _ h=>Q6o _ _ h)) (fun v12=>Jh))) (fun v12=>g2x (Yg _ _))) (fun v12=>Jh)))) (fun b13=>g2x (Q6R gI _ _))) (fun _=>rfl)) (fun _=>rfl)) rfl) (fun _=>rfl) (fun b15=>(X5 (Yl (Jg:VP _ _ (.bool false)) rfl))) (fun b15=>(Xt (Q0X (Jv (δ':=[.fz thing,.fz (Q2 form_10),.no,.no]) (Q4H (Q3L (Ye (Jf 1 rfl) (Ju (Wg (q:=(Xj thing (some 1) none)) (e:=eD) (Jf 0 rfl) (Yc (Jg:VP _ _ (.int 1))) Ya (fun _ h=>h)) (fun v16=>Jh))) (fun _=>rfl)) (fun v17=>(Q0A (e:=(eP2 Q2 eD)) (st:=fun s19=>[.fz thing,.fz (Q2 form_10),.no,.no]) (s0:=()) (rv:=fun v29=>(Q4 v29)) (ro:=fun v29=>[.fz thing]) Q2o (fun x20 s19=>(Q6d (Q0N (Wh 2) (Q0N (Wh 3) Q4N)))) (fun x20 s19=>(Jv (δ':=[.fz thing,.fz (Q2 form_10),.fz (Q2 x20.1),.fz x20.2]) (Vg (Q0T (Q2U (v:=false) (Zv (Vt (Jf 2 rfl) (Jg:VP _ _ (.str ("n":Str))) (Q3b gS _ _))) (K1 (r':=fun (c22:Bool)=>(c22,[.fz thing,.fz (Q2 form_10),.fz (Q2 x20.1),.fz x20.2])) (Km (Vy (X3 (X7 (Jf 3 rfl) X8) (Q1a _ )) (fun _=>rfl))) (fun _=>rfl)) rfl) (fun _=>rfl) (fun b23=>(Q0x (r':=fun (c27:Bool)=>(c27,[.fz thing,.fz (Q2 form_10),.fz (Q2 x20.1),.fz x20.2])) (Q2U (v:=false) (Zv (Vt (Jf 2 rfl) (Jg:VP _ _ (.str ("n":Str))) (Q6R gS _ _))) (K1 (r':=fun (c25:Bool)=>(c25,[.fz thing,.fz (Q2 form_10),.fz (Q2 x20.1),.fz x20.2])) (Km (Vy (X3 (X7 (Jf 3 rfl) X8) (Q26 _ )) (fun _=>rfl))) (fun _=>rfl)) rfl) (fun _=>rfl))) (fun _=>rfl)) (fun _=>rfl) (fun b28=>(X5 (Yl (Jg:VP _ _ (.bool false)) rfl))) (fun b28=>(Xt (Wc (v:=(Sum.inl ())) rfl)))))) (fun _=>⟨_,rfl,rfl⟩) (fun s19=>(Yl (Jg:VP _ _ (.bool true)) rfl)))))))))))))))))
theorem Zc (k:Dk) (M:Int):∀ v,Ww k M = some v → X6 [sDk k,.fz (.int M)] = some (.int v.1,[sDk v.2,.fz (.int M)]):=Q70 k M
def V5 :Option (List (Str × Str)):=(some [(("folder":Str),("pn":Str)),(("file":Str),("pnw":Str)),(("write":Str),("pw":Str)),(("link":Str),("ppn":Str)),(("move":Str),("ppn":Str)),(("drop":Str),("p":Str))])
theorem Zt :∀ v,V5  = some v → Xh [] = some (((eDi Q2 Q2) v),[]):=by
 exact Q0u (Yl (Q4x (Ku (Jg:VP _ _ (.str ("folder":Str))) (Jg:VP _ _ (.str ("pn":Str))) (Ku (Jg:VP _ _ (.str ("file":Str))) (Jg:VP _ _ (.str ("pnw":Str))) (Ku (Jg:VP _ _ (.str ("write":Str))) (Jg:VP _ _ (.str ("pw":Str))) (Ku (Jg:VP _ _ (.str ("link":Str))) (Jg:VP _ _ (.str ("ppn":Str))) (Ku (Jg:VP _ _ (.str ("move":Str))) (Jg:VP _ _ (.str ("ppn":Str))) (Ku (Jg:VP _ _ (.str ("drop":Str))) (Jg:VP _ _ (.str ("p":Str))) Q6y)))))) rfl:VP _ _ ((eDi Q2 Q2) [(("folder":Str),("pn":Str)),(("file":Str),("pnw":Str)),(("write":Str),("pw":Str)),(("link":Str),("ppn":Str)),(("move":Str),("ppn":Str)),(("drop":Str),("p":Str))])) rfl)
def Wi (deck:Dk):Option (Int × Dk):=((Ww deck 8)).bind fun r1=>((((((Ww r1.2 100)).bind fun r3=>((((Ww r3.2 99)).bind fun r4=>((Ww r4.2 9)).map fun r5=>(r4,r5))).map fun b6=>(r3,b6))).bind fun b7=>((atI ([0,1,99,100,(-1),b7.1.1,(1 + b7.2.1.1),((10 ^ 39:Int) - b7.2.2.1)]) r1.1)).map fun v9=>(b7,v9))).bind fun b8=>(some (b8.2,b8.1.2.2.2))
theorem Q1Q (deck:Dk):∀ v,Wi deck = some v → Ys [sDk deck] = some ((Q0 v.1),[sDk v.2]):=by
 exact Q0u (Yp (X3 (Z9 0 (X7 (Jg:VP _ _ (.int 8)) X8)) (Zc _ _ )) (fun r1=>(Yn (Y2 (e:=fun _=>Q0) (Ju (Q1b (z:=fun b7=>((eLi Q0) ([0,1,99,100,(-1),b7.1.1,(1 + b7.2.1.1),((10 ^ 39:Int) - b7.2.2.1)]))) (Q1I (Ye (Jg:VP _ _ (.int 0)) (Ye (Jg:VP _ _ (.int 1)) (Ye (Jg:VP _ _ (.int 99)) (Ye (Jg:VP _ _ (.int 100)) (Ye (Kd (Jg:VP _ _ (.int 1)) (Q4J _)) (Xs (X3 (Z9 0 (X7 (Jg:VP _ _ (.int 100)) X8)) (Zc _ _ )) (fun r3=>(Xs (Ks (Ye (Jg:VP _ _ (.int 1)) (Ju (X3 (Z9 0 (X7 (Jg:VP _ _ (.int 99)) X8)) (Zc _ _ )) (fun r4=>Jh))) (fun r4=>g2x (Yg _ _))) (fun r4=>(Ju (Ks (Ye (Vt (Jg:VP _ _ (.int 10)) (Jg:VP _ _ (.int 39)) (show Q28 (.int 10) (.int 39) = some (.int (10 ^ 39)) from rfl)) (Ju (X3 (Z9 0 (X7 (Jg:VP _ _ (.int 9)) X8)) (Zc _ _ )) (fun r5=>Jh))) (fun r5=>g2x (Z2 _ _))) (fun r5=>Jh)))))))))))) (fun _=>rfl)) (fun b7=>(Je (Jf 1 rfl) Jh))) (fun b7 _ h=>g2x (V4 _ _ _ h))) (fun _=>rfl))))
def Q0D (deck:Dk) (sort:Str) (most:Int):Option (D × Dk):=if (decide (sort = ("n":Str))) then ((Wi deck)).bind fun r1=>(some ((Q0 r1.1),r1.2)) else ((((((Ww deck (most + 1))).bind fun r2=>(Q7G r2.1).map fun v4=>(r2,v4))).bind fun b3=>(K0 b3.2 (Q1k (fun x8 s7=>(((Wi s7)).map fun r9=>(r9.1,r9.2))) b3.2 b3.1.2)).map fun v11=>(b3,v11))).bind fun l10=>(some (((eTu Q0) l10.2.1),l10.2.2))
theorem Q6l (deck:Dk) (sort:Str) (most:Int):∀ v,Q0D deck sort most = some v → W8 [sDk deck,.fz (Q2 sort),.fz (Q0 most)] = some (v.1,[sDk v.2,.fz (Q2 sort),.fz (Q0 most)]):=by
 exact Q0u (Jv (δ':=[sDk deck,.fz (Q2 sort),.fz (Q0 most),.no]) (Q3w (Zv (Vt (Jf 1 rfl) (Jg:VP _ _ (.str ("n":Str))) (Q3b gS _ _))) (X5 (Yn (X3 (Z9 0 X8) (Q1Q _ )) (fun _=>rfl))) (Xt (Yn (Q60 (Ju (Q39 (Q6v  (Ju (X3 (Z9 0 (X7 (Vt (Jf 2 rfl) (Jg:VP _ _ (.int 1)) (Yg _ _)) X8)) (Zc _ _ )) (fun r2=>Jh)) (fun _=>rfl)) (fun b3=>(Q1m (e:=Q0) (e':=Q0) (st:=fun s7=>[sDk s7,.fz (Q2 sort),.fz (Q0 most),.no]) (s0:=b3.1.2) (δb:=fun x8 s7=>[sDk s7,.fz (Q2 sort),.fz (Q0 most),.fz (Q0 x8)]) Q2o (fun x8 s7=>(Wh 3)) (fun x8 s7=>(Q1s (X3 (Z9 0 X8) (Q1Q _ )) (fun _=>rfl)))))) (fun l10=>Jh)) (fun l10=>Q6p _)) (fun _=>rfl)))))
def Q0H (deck:Dk) (word:Str) (most:Int):Option (D × Dk):=((((((((V5 )).bind fun r1=>((Kl r1 word)).map fun v3=>(r1,v3))).bind fun b2=>(K0 (chN b2.2) (Q1k (fun x7 s6=>(((Q0D s6 x7 most)).map fun r8=>(r8.1,r8.2))) (chN b2.2) deck)).map fun v10=>(b2,v10))).bind fun l9=>(Q19 ([(Q2 word)]) l9.2.1).map fun v12=>(l9,v12))).bind fun b11=>(some (((eTu eD) b11.2),b11.1.2.2))
theorem Q5x (deck:Dk) (word:Str) (most:Int):∀ v,Q0H deck word most = some v → W1 [sDk deck,.fz (Q2 word),.fz (Q0 most)] = some (v.1,[sDk v.2,.fz (Q2 word),.fz (Q0 most)]):=by
 exact Q0u (Yn (Y2 (e:=fun _=>(eTu eD)) (Ye (Qa6 ((X1 (Je (Jf 1 rfl) Jh)):VP _ _ ((eP1 Q2) word)) ((Q9n (fun _=>rfl)) word):VP _ _ ((eTu eD) ([(Q2 word)]))) (Ju (Q60 (Ju (Q39 (Q9T (Y2 (e:=fun _=>Q2) (Ju (X3 X8 (Zt )) (fun r1=>(Je (Jf 1 rfl) Jh))) (fun r1 _ h=>g2x (Q86 kgS _ _ _ h))) (fun _=>Q9J _)) (fun b2=>(Q1m (e:=Q2) (e':=eD) (st:=fun s6=>[sDk s6,.fz (Q2 word),.fz (Q0 most),.no]) (s0:=deck) (δb:=fun x7 s6=>[sDk s6,.fz (Q2 word),.fz (Q0 most),.fz (Q2 x7)]) Q2o (fun x7 s6=>(Wh 3)) (fun x7 s6=>(Q1s (X3 (Z9 0 (X7 (Jf 3 rfl) (X7 (Jf 2 rfl) X8))) (Q6l _ _ _ )) (fun _=>rfl)))))) (fun l9=>Jh)) (fun l9=>Q6p _)) (fun l9=>Jh))) (fun l9 _ h=>g2x (Q8D _ _ _ h))) (fun _=>rfl))
def Xp (thing:D):Option Bool:=(some ((Yz "int" thing) && (!(Yz "bool" thing))))
theorem Zz (thing:D):∀ v,Xp thing = some v → Xz [.fz thing] = some ((Q4 v),[.fz thing]):=by
 exact Q0u (Yl (Q6n (Kd (Jf 0 rfl) (rfl)) (Q6r (Kd (Jf 0 rfl) (rfl)))) rfl)
def Wr (thing:D):Option Bool:=((if (!(Yz "tuple" thing)) then some true else (((eqE thing ((eTu Q0) ([])))).bind fun v1=>if v1 then some true else (((Xe thing (Q0 0))).bind fun v2=>if (!(Yz "str" v2)) then some true else (((((((Xe thing (Q0 0))).bind fun v3=>(asS v3).map fun c6=>(v3,c6))).bind fun c5=>((V5 )).map fun r4=>(c5,r4))).map fun b7=>(!Q8R b7.2 b7.1.2)))))).bind fun b13=>if b13 then (some false) else ((((((V5 )).bind fun r14=>((((Xe thing (Q0 0))).bind fun v15=>(asS v15).map fun c17=>(v15,c17))).map fun c16=>(r14,c16))).bind fun b18=>((Kl b18.1 b18.2.2)).map fun v20=>(b18,v20))).bind fun b19=>(((((Vb thing).bind asI)).bind fun v22=>((Q4c b19.2)).map fun v23=>(v22,v23))).bind fun b24=>if (!decide (b24.1 = (1 + b24.2))) then (some false) else ((((Xj thing (some 1) none)).bind fun v25=>(Q2h b19.2 v25).map fun v27=>(v25,v27))).bind fun v26=>(Q0U (fun x29 s28=>if (decide (x29.1 = ("n":Str))) then ((Xp x29.2)).bind fun r30=>if (!r30) then (some (Sum.inr false)) else (some (Sum.inl ())) else ((if (!(Yz "tuple" x29.2)) then some true else (((((((V9 x29.2)).bind fun v31=>(K0 v31 (Z4 (fun x32=>(((Xp x32)).map fun r33=>(!r33))) (fun x32=>(some x32)) v31)).map fun v36=>(v31,v36))).bind fun l35=>((neZ ((eLi eD) l35.2) ((eLi Q0) ([])))).map fun v38=>(l35,v38))).map fun b37=>b37.2))).bind fun b40=>if b40 then (some (Sum.inr false)) else (some (Sum.inl ()))) v26.2 ()).bind (Sum.elim (fun s28=>(some true)) (fun v42=>(some v42)))
theorem Q3R (thing:D):∀ v,Wr thing = some v → V1 [.fz thing] = some ((Q4 v),[.fz thing]):=by
 exact Q0u (Jv (δ':=[.fz thing,.no,.no,.no,.no]) (Vg (Q07 (v:=true) (Q0Y (Zv (Kd (Jf 0 rfl) (rfl)))) (Q0x (r':=fun (c12:Bool)=>(c12,[.fz thing,.no,.no,.no,.no])) (Q0T (Vy (Xk (q:=(eqE thing ((eTu Q0) ([])))) (e:=Q4) (Jf 0 rfl) ((X1 Jh):VP _ _ ((eTu Q0) ([]))) (fun _ h=>Q3p _ _ h)) (fun _=>rfl)) (fun _=>rfl) (fun v1=>(Q0x (r':=fun (c10:Bool)=>(c10,[.fz thing,.no,.no,.no,.no])) (Q0T (Km (Vy (Q9i (Xk (q:=(Xe thing (Q0 0))) (e:=eD) (Jf 0 rfl) (Jg:VP _ _ (.int 0)) (fun _ h=>h)) (fun v2=>rfl)) (fun _=>rfl))) (fun _=>rfl) (fun v2=>(K1 (r':=fun (c8:Bool)=>(c8,[.fz thing,.no,.no,.no,.no])) (Vy (Ks (Xs (Q5K (e:=Q2) (Xk (q:=(Xe thing (Q0 0))) (e:=eD) (Jf 0 rfl) (Jg:VP _ _ (.int 0)) (fun _ h=>h)) (fun _=>(Q5w) _)) (fun c5=>(Ju (X3 X8 (Zt )) (fun r4=>Jh)))) (fun b7=>g2x (Q68 kgS _ _))) (fun _=>rfl)) (fun _=>rfl))) (fun _=>rfl)) (fun _=>rfl))) (fun _=>rfl)) (fun _=>rfl)) rfl) (fun _=>rfl) (fun b13=>(X5 (Jv (δ':=[.fz thing,.no,.no,.no,.no]) (Yl (Jg:VP _ _ (.bool false)) rfl)))) (fun b13=>(Xt (Jv (δ':=[.fz thing,.no,.no,.no,.no]) (Yp (Y2 (e:=fun _=>Q2) (Xs (X3 X8 (Zt )) (fun r14=>(Ju (Q5K (e:=Q2) (Xk (q:=(Xe thing (Q0 0))) (e:=eD) (Jf 0 rfl) (Jg:VP _ _ (.int 0)) (fun _ h=>h)) (fun _=>(Q5w) _)) (fun c16=>Jh)))) (fun b18 _ h=>g2x (Q86 kgS _ _ _ h))) (fun b19=>(Jv (δ':=[.fz thing,.fz (Q2 b19.2),.no,.no,.no]) (Vg (Vy (Ks (Xs (Zh (q:=((Vb thing).bind asI)) (e:=Q0) (Je (Jf 0 rfl) Jh) (fun _ h=>Q6J _ _ h)) (fun v22=>(Ju (Ks (Ye (Jg:VP _ _ (.int 1)) (Ju (Zh (q:=(Q4c b19.2)) (e:=Q0) (Je (Jf 1 rfl) Jh) (fun _ h=>Q6o _ _ h)) (fun v23=>Jh))) (fun v23=>g2x (Yg _ _))) (fun v23=>Jh)))) (fun b24=>g2x (Q6R gI _ _))) (fun _=>rfl)) (fun _=>rfl) (fun b24=>(X5 (Jv (δ':=[.fz thing,.fz (Q2 b19.2),.no,.no,.no]) (Yl (Jg:VP _ _ (.bool false)) rfl)))) (fun b24=>(Xt (Q0X (Jv (δ':=[.fz thing,.fz (Q2 b19.2),.no,.no,.no]) (Q4H (Q3L (Ye (Jf 1 rfl) (Ju (Wg (q:=(Xj thing (some 1) none)) (e:=eD) (Jf 0 rfl) (Yc (Jg:VP _ _ (.int 1))) Ya (fun _ h=>h)) (fun v25=>Jh))) (fun _=>rfl)) (fun v26=>(Q0A (e:=(eP2 Q2 eD)) (st:=fun s28=>[.fz thing,.fz (Q2 b19.2),.no,.no,.no]) (s0:=()) (rv:=fun v41=>(Q4 v41)) (ro:=fun v41=>[.fz thing]) Q2o (fun x29 s28=>(Q6d (Q0N (Wh 2) (Q0N (Wh 3) Q4N)))) (fun x29 s28=>(Jv (δ':=[.fz thing,.fz (Q2 b19.2),.fz (Q2 x29.1),.fz x29.2,.no]) (Q3w (Zv (Vt (Jf 2 rfl) (Jg:VP _ _ (.str ("n":Str))) (Q3b gS _ _))) (X5 (Jv (δ':=[.fz thing,.fz (Q2 b19.2),.fz (Q2 x29.1),.fz x29.2,.no]) (Vg (Km (Vy (X3 (X7 (Jf 3 rfl) X8) (Zz _ )) (fun _=>rfl))) (fun _=>rfl) (fun r30=>(X5 (Jv (δ':=[.fz thing,.fz (Q2 b19.2),.fz (Q2 x29.1),.fz x29.2,.no]) (Yl (Jg:VP _ _ (.bool false)) rfl)))) (fun r30=>(Xt (Xt (Wc (v:=(Sum.inl ())) rfl))))))) (X5 (Jv (δ':=[.fz thing,.fz (Q2 b19.2),.fz (Q2 x29.1),.fz x29.2,.no]) (Vg (Q07 (v:=true) (Q0Y (Zv (Kd (Jf 3 rfl) (rfl)))) (K1 (r':=fun (c39:Bool)=>(c39,[.fz thing,.fz (Q2 b19.2),.fz (Q2 x29.1),.fz x29.2,.no])) (Vy (Y2 (e:=fun _=>Q4) (Ju (Q39 (Q5N (q:=(V9 x29.2)) (z:=fun v=>List.map eD v) (Jf 3 rfl) (fun _ h=>Q5y _ _ h)) (fun v31=>(Q4i (e:=eD) (e':=eD) Q2o (fun x32=>(Wh 4)) (fun x32=>(K1 (Km (Vy (X3 (X7 (Jf 4 rfl) X8) (Zz _ )) (fun _=>rfl))) (fun _=>rfl))) (fun x32=>(Q87 (v:=x32) (Jf 4 rfl) rfl))))) (fun l35=>(Je ((Yv Jh):VP _ _ ((eLi Q0) ([]))) Jh))) (fun l35 _ h=>g2x (Q3p _ _ h))) (fun _=>rfl)) (fun _=>rfl)) rfl) (fun _=>rfl) (fun b40=>(X5 (Jv (δ':=[.fz thing,.fz (Q2 b19.2),.fz (Q2 x29.1),.fz x29.2,.no]) (Yl (Jg:VP _ _ (.bool false)) rfl)))) (fun b40=>(Xt (Xt (Wc (v:=(Sum.inl ())) rfl)))))))))) (fun _=>⟨_,rfl,rfl⟩) (fun s28=>(Jv (δ':=[.fz thing,.fz (Q2 b19.2),.no,.no,.no]) (Yl (Jg:VP _ _ (.bool true)) rfl)))))))))))))))))))
def Vk (picks:(List Int)) (thing:D):Option D:=((((atI picks 0)).bind fun v1=>((atI picks 1)).map fun v2=>(v1,v2))).bind fun b3=>Q0a ([.none,(Q4 true),(Q0 0),(Q0 (-7)),(Q2 ("":Str)),(Q2 ("drop":Str)),((eTu Q0) ([])),((eLi Q0) ([])),((eDi Q0 Q0) ([])),((eP2 Q2 (eTu Q0)) (("drop":Str),[])),(Q0 (10 ^ 39:Int)),(Q2 ("file":Str)),((eP1 (eTu Q0)) ([])),((eDi Q0 Q0) ([(0,1)]))]) fun some_4=>if (decide ((b3.1 % 9) = 0)) then ((atI some_4 (b3.2 % 14))).bind fun v5=>(some v5) else if ((Yz "bool" thing) || (Yz "int" thing)) then (((((Q3v thing (Q0 1)).bind fun v6=>((((eqD thing (Q0 1))).bind fun v7=>((((Q36 thing)).bind fun v8=>(Q3e (Q0 (-1)) thing).map fun v9=>(v8,v9))).map fun b10=>(v7,b10))).map fun b11=>(v6,b11))).bind fun b12=>((atI ([b12.1,(Q4 b12.2.1),b12.2.2.1,((eP1 eD) thing),((eLi eD) ([thing])),.none,b12.2.2.2,(Q4 false)]) ((b3.1 % 9) - 1))).map fun v14=>(b12,v14))).bind fun b13=>(some b13.2) else if (Yz "str" thing) then Q0a ([("folder":Str),("file":Str),("write":Str),("link":Str),("move":Str),("drop":Str),("drops":Str),("":Str)]) fun words_15=>(((((X2 thing (Q2 ("s":Str))).bind fun v16=>((((Xj thing none (some (-1)))).bind fun v17=>((((upD thing)).bind fun v18=>((((atI words_15 (b3.2 % 8))).bind fun v19=>((atI words_15 (b3.2 % 5))).map fun v20=>(v19,v20))).map fun b21=>(v18,b21))).map fun b22=>(v17,b22))).map fun b23=>(v16,b23))).bind fun b24=>((atI ([b24.1,b24.2.1,b24.2.2.1,((eP1 eD) thing),((eLi eD) ([thing])),(Q0 3),(Q2 b24.2.2.2.1),(Q2 b24.2.2.2.2)]) ((b3.1 % 9) - 1))).map fun v26=>(b24,v26))).bind fun b25=>(some b25.2) else ((if (!(Yz "tuple" thing)) then some true else (eqE thing ((eTu Q0) ([]))))).bind fun b29=>if b29 then ((atI ([((eP1 Q0) 0),((eLi Q0) ([])),.none,((eP1 (eTu Q0)) ([])),(Q2 ("":Str)),(Q0 0),((eDi Q0 Q0) ([])),((eP1 Q4) true)]) ((b3.1 % 9) - 1))).bind fun v30=>(some v30) else (((((Vb thing).bind asI)).bind fun v31=>(Q3u b3.2 v31).map fun v33=>(v31,v33))).bind fun b32=>((((((((Xj thing none (some b32.2))).bind fun v35=>((Xj thing (some (b32.2 + 1)) none)).map fun v36=>(v35,v36))).bind fun b37=>(X2 b37.1 b37.2).map fun v39=>(b37,v39))).bind fun b38=>((((((((Xj thing none (some (b32.2 + 1)))).bind fun v40=>((Xj thing (some b32.2) none)).map fun v41=>(v40,v41))).bind fun b42=>(X2 b42.1 b42.2).map fun v44=>(b42,v44))).bind fun b43=>((((Q5j thing)).bind fun v45=>((((Q2r thing)).bind fun v46=>((Xe thing (Q0 b32.2))).map fun v47=>(v46,v47))).map fun b48=>(v45,b48))).map fun b49=>(b43,b49))).map fun b50=>(b38,b50))).bind fun b51=>Q0a ([b51.1.2,b51.2.1.2,b51.2.2.1,b51.2.2.2.1,b51.2.2.2.2]) fun some_52=>((((((((((Xe thing (Q0 b32.2))).bind fun v53=>(X2 thing ((eP1 eD) v53)).map fun v55=>(v53,v55))).bind fun b54=>(((X2 thing ((eP1 (eTu Q0)) ([]))).bind fun v56=>((((((Xj thing (some b32.2) none)).bind fun v57=>((Xj thing none (some b32.2))).map fun v58=>(v57,v58))).bind fun b59=>(X2 b59.1 b59.2).map fun v61=>(b59,v61))).map fun b60=>(v56,b60))).map fun b62=>(b54,b62))).bind fun b63=>(Q19 some_52 ([b63.1.2,b63.2.1,b63.2.2.2])).map fun v65=>(b63,v65))).bind fun b64=>((atI b64.2 ((b3.1 % 9) - 1))).map fun v67=>(b64,v67))).bind fun b66=>(some b66.2)
theorem Q0W (picks:(List Int)) (thing:D):∀ v,Vk picks thing = some v → Yi [.fz ((eLi Q0) picks),.fz thing] = some (v,[.fz ((eLi Q0) picks),.fz thing]):=by
 exact Q0u (Jv (δ':=[.fz ((eLi Q0) picks),.fz thing,.no,.no,.no,.no,.no]) (Q5v (a:=fun b3=>(Q0 (b3.1 % 9))) (b:=fun b3=>(Q0 b3.2)) (Xs (Ks (Ju (Xk (q:=(atI picks 0)) (e:=Q0) (Jf 0 rfl) (Jg:VP _ _ (.int 0)) (fun _ h=>V4 _ _ _ h)) (fun v1=>(Je (Jg:VP _ _ (.int 9)) Jh))) (fun v1=>g2x (Xq _ _ (by decide)))) (fun v1=>(Ju (Xk (q:=(atI picks 1)) (e:=Q0) (Jf 0 rfl) (Jg:VP _ _ (.int 1)) (fun _ h=>V4 _ _ _ h)) (fun v2=>Jh)))) (fun _=>rfl) (fun b3=>(Jv (δ':=[.fz ((eLi Q0) picks),.fz thing,.fz (Q0 (b3.1 % 9)),.fz (Q0 b3.2),.no,.no,.no]) (Q2A (e:=(eLi eD)) (v:=[.none,(Q4 true),(Q0 0),(Q0 (-7)),(Q2 ("":Str)),(Q2 ("drop":Str)),((eTu Q0) ([])),((eLi Q0) ([])),((eDi Q0 Q0) ([])),((eP2 Q2 (eTu Q0)) (("drop":Str),[])),(Q0 (10 ^ 39:Int)),(Q2 ("file":Str)),((eP1 (eTu Q0)) ([])),((eDi Q0 Q0) ([(0,1)]))]) ((Yv (Je (Jg:VP _ _ .none) (Je (Jg:VP _ _ (.bool true)) (Je (Jg:VP _ _ (.int 0)) (Je (Kd (Jg:VP _ _ (.int 7)) (Q4J _)) (Je (Jg:VP _ _ (.str ("":Str))) (Je (Jg:VP _ _ (.str ("drop":Str))) (Je ((X1 Jh):VP _ _ ((eTu Q0) ([]))) (Je ((Yv Jh):VP _ _ ((eLi Q0) ([]))) (Je (Q2E) (Je ((X1 (Je (Jg:VP _ _ (.str ("drop":Str))) (Je ((X1 Jh):VP _ _ ((eTu Q0) ([]))) Jh))):VP _ _ ((eP2 Q2 (eTu Q0)) (("drop":Str),[]))) (Je (Vt (Jg:VP _ _ (.int 10)) (Jg:VP _ _ (.int 39)) (show Q28 (.int 10) (.int 39) = some (.int (10 ^ 39)) from rfl)) (Je (Jg:VP _ _ (.str ("file":Str))) (Je ((X1 (Je ((X1 Jh):VP _ _ ((eTu Q0) ([]))) Jh)):VP _ _ ((eP1 (eTu Q0)) ([]))) (Je (Q4x (Ku (Jg:VP _ _ (.int 0)) (Jg:VP _ _ (.int 1)) Q6y) rfl:VP _ _ ((eDi Q0 Q0) [(0,1)])) Jh))))))))))))))):VP _ _ ((eLi eD) ([.none,(Q4 true),(Q0 0),(Q0 (-7)),(Q2 ("":Str)),(Q2 ("drop":Str)),((eTu Q0) ([])),((eLi Q0) ([])),((eDi Q0 Q0) ([])),((eP2 Q2 (eTu Q0)) (("drop":Str),[])),(Q0 (10 ^ 39:Int)),(Q2 ("file":Str)),((eP1 (eTu Q0)) ([])),((eDi Q0 Q0) ([(0,1)]))]))) (fun some_4=>(Jv (δ':=[.fz ((eLi Q0) picks),.fz thing,.fz (Q0 (b3.1 % 9)),.fz (Q0 b3.2),.fz ((eLi eD) some_4),.no,.no]) (Q3w (Zv (Vt (Jf 2 rfl) (Jg:VP _ _ (.int 0)) (Q3b gI _ _))) (X5 (Jv (δ':=[.fz ((eLi Q0) picks),.fz thing,.fz (Q0 (b3.1 % 9)),.fz (Q0 b3.2),.fz ((eLi eD) some_4),.no,.no]) (Yn (Xk (q:=(atI some_4 (b3.2 % 14))) (e:=eD) (Jf 4 rfl) (Vt (Jf 3 rfl) (Jg:VP _ _ (.int 14)) (Xq _ _ (by decide))) (fun _ h=>V4 _ _ _ h)) (fun _=>rfl)))) (Xt (Jv (δ':=[.fz ((eLi Q0) picks),.fz thing,.fz (Q0 (b3.1 % 9)),.fz (Q0 b3.2),.fz ((eLi eD) some_4),.no,.no]) (Q3w (Q9v (Zv (Kd (Jf 1 rfl) (rfl))) (Zv (Kd (Jf 1 rfl) (rfl)))) (X5 (Jv (δ':=[.fz ((eLi Q0) picks),.fz thing,.fz (Q0 (b3.1 % 9)),.fz (Q0 b3.2),.fz ((eLi eD) some_4),.no,.no]) (Yn (Y2 (e:=fun _=>eD) (Ju (Q1b (z:=fun b12=>((eLi eD) ([b12.1,(Q4 b12.2.1),b12.2.2.1,((eP1 eD) thing),((eLi eD) ([thing])),.none,b12.2.2.2,(Q4 false)]))) (Q1I (Xs (Xk (q:=Q3v thing (Q0 1)) (e:=eD) (Jf 1 rfl) (Jg:VP _ _ (.int 1)) (fun _ h=>h)) (fun v6=>(Xs (Xk (q:=(eqD thing (Q0 1))) (e:=Q4) (Jf 1 rfl) (Jg:VP _ _ (.int 1)) (fun _ h=>Q3p _ _ h)) (fun v7=>(Xs (Zh (q:=(Q36 thing)) (e:=eD) (Je (Jf 1 rfl) Jh) (fun _ h=>h)) (fun v8=>(Ye ((X1 (Je (Jf 1 rfl) Jh)):VP _ _ ((eP1 eD) thing)) (Ye ((Yv (Je (Jf 1 rfl) Jh)):VP _ _ ((eLi eD) ([thing]))) (Ye (Jg:VP _ _ .none) (Ju (Xk (q:=Q3e (Q0 (-1)) thing) (e:=eD) (Kd (Jg:VP _ _ (.int 1)) (Q4J _)) (Jf 1 rfl) (fun _ h=>h)) (fun v9=>(Je (Jg:VP _ _ (.bool false)) Jh))))))))))))) (fun _=>rfl)) (fun b12=>(Je (Vt (Jf 2 rfl) (Jg:VP _ _ (.int 1)) (Z2 _ _)) Jh))) (fun b12 _ h=>g2x (V4 _ _ _ h))) (fun _=>rfl)))) (Xt (Jv (δ':=[.fz ((eLi Q0) picks),.fz thing,.fz (Q0 (b3.1 % 9)),.fz (Q0 b3.2),.fz ((eLi eD) some_4),.no,.no]) (Q3w (Zv (Kd (Jf 1 rfl) (rfl))) (X5 (Jv (δ':=[.fz ((eLi Q0) picks),.fz thing,.fz (Q0 (b3.1 % 9)),.fz (Q0 b3.2),.fz ((eLi eD) some_4),.no,.no]) (Q2A (e:=(eLi Q2)) (v:=[("folder":Str),("file":Str),("write":Str),("link":Str),("move":Str),("drop":Str),("drops":Str),("":Str)]) ((Yv (Je (Jg:VP _ _ (.str ("folder":Str))) (Je (Jg:VP _ _ (.str ("file":Str))) (Je (Jg:VP _ _ (.str ("write":Str))) (Je (Jg:VP _ _ (.str ("link":Str))) (Je (Jg:VP _ _ (.str ("move":Str))) (Je (Jg:VP _ _ (.str ("drop":Str))) (Je (Jg:VP _ _ (.str ("drops":Str))) (Je (Jg:VP _ _ (.str ("":Str))) Jh))))))))):VP _ _ ((eLi Q2) ([("folder":Str),("file":Str),("write":Str),("link":Str),("move":Str),("drop":Str),("drops":Str),("":Str)]))) (fun words_15=>(X5 (Jv (δ':=[.fz ((eLi Q0) picks),.fz thing,.fz (Q0 (b3.1 % 9)),.fz (Q0 b3.2),.fz ((eLi eD) some_4),.fz ((eLi Q2) words_15),.no]) (Yn (Y2 (e:=fun _=>eD) (Ju (Q1b (z:=fun b24=>((eLi eD) ([b24.1,b24.2.1,b24.2.2.1,((eP1 eD) thing),((eLi eD) ([thing])),(Q0 3),(Q2 b24.2.2.2.1),(Q2 b24.2.2.2.2)]))) (Q1I (Xs (Xk (q:=X2 thing (Q2 ("s":Str))) (e:=eD) (Jf 1 rfl) (Jg:VP _ _ (.str ("s":Str))) (fun _ h=>h)) (fun v16=>(Xs (Wg (q:=(Xj thing none (some (-1)))) (e:=eD) (Jf 1 rfl) Ya (Yc (Kd (Jg:VP _ _ (.int 1)) (Q4J _))) (fun _ h=>h)) (fun v17=>(Xs (Q7Z (q:=(upD thing)) (e:=eD) (Jf 1 rfl) (fun _ h=>h)) (fun v18=>(Ye ((X1 (Je (Jf 1 rfl) Jh)):VP _ _ ((eP1 eD) thing)) (Ye ((Yv (Je (Jf 1 rfl) Jh)):VP _ _ ((eLi eD) ([thing]))) (Ye (Jg:VP _ _ (.int 3)) (Xs (Xk (q:=(atI words_15 (b3.2 % 8))) (e:=Q2) (Jf 5 rfl) (Vt (Jf 3 rfl) (Jg:VP _ _ (.int 8)) (Xq _ _ (by decide))) (fun _ h=>V4 _ _ _ h)) (fun v19=>(Ju (Xk (q:=(atI words_15 (b3.2 % 5))) (e:=Q2) (Jf 5 rfl) (Vt (Jf 3 rfl) (Jg:VP _ _ (.int 5)) (Xq _ _ (by decide))) (fun _ h=>V4 _ _ _ h)) (fun v20=>Jh)))))))))))))) (fun _=>rfl)) (fun b24=>(Je (Vt (Jf 2 rfl) (Jg:VP _ _ (.int 1)) (Z2 _ _)) Jh))) (fun b24 _ h=>g2x (V4 _ _ _ h))) (fun _=>rfl)))))))) (Q3V (Jv (δ':=[.fz ((eLi Q0) picks),.fz thing,.fz (Q0 (b3.1 % 9)),.fz (Q0 b3.2),.fz ((eLi eD) some_4),.no,.no]) (Vg (Q07 (v:=true) (Q0Y (Zv (Kd (Jf 1 rfl) (rfl)))) (Q0x (r':=fun (c28:Bool)=>(c28,[.fz ((eLi Q0) picks),.fz thing,.fz (Q0 (b3.1 % 9)),.fz (Q0 b3.2),.fz ((eLi eD) some_4),.no,.no])) (Vy (Xk (q:=(eqE thing ((eTu Q0) ([])))) (e:=Q4) (Jf 1 rfl) ((X1 Jh):VP _ _ ((eTu Q0) ([]))) (fun _ h=>Q3p _ _ h)) (fun _=>rfl)) (fun _=>rfl)) rfl) (fun _=>rfl) (fun b29=>(X5 (Jv (δ':=[.fz ((eLi Q0) picks),.fz thing,.fz (Q0 (b3.1 % 9)),.fz (Q0 b3.2),.fz ((eLi eD) some_4),.no,.no]) (Yn (Xk (q:=(atI ([((eP1 Q0) 0),((eLi Q0) ([])),.none,((eP1 (eTu Q0)) ([])),(Q2 ("":Str)),(Q0 0),((eDi Q0 Q0) ([])),((eP1 Q4) true)]) ((b3.1 % 9) - 1))) (e:=eD) ((Yv (Je ((X1 (Je (Jg:VP _ _ (.int 0)) Jh)):VP _ _ ((eP1 Q0) 0)) (Je ((Yv Jh):VP _ _ ((eLi Q0) ([]))) (Je (Jg:VP _ _ .none) (Je ((X1 (Je ((X1 Jh):VP _ _ ((eTu Q0) ([]))) Jh)):VP _ _ ((eP1 (eTu Q0)) ([]))) (Je (Jg:VP _ _ (.str ("":Str))) (Je (Jg:VP _ _ (.int 0)) (Je (Q2E) (Je ((X1 (Je (Jg:VP _ _ (.bool true)) Jh)):VP _ _ ((eP1 Q4) true)) Jh))))))))):VP _ _ ((eLi eD) ([((eP1 Q0) 0),((eLi Q0) ([])),.none,((eP1 (eTu Q0)) ([])),(Q2 ("":Str)),(Q0 0),((eDi Q0 Q0) ([])),((eP1 Q4) true)]))) (Vt (Jf 2 rfl) (Jg:VP _ _ (.int 1)) (Z2 _ _)) (fun _ h=>V4 _ _ _ h)) (fun _=>rfl))))) (fun b29=>(Xt (Jv (δ':=[.fz ((eLi Q0) picks),.fz thing,.fz (Q0 (b3.1 % 9)),.fz (Q0 b3.2),.fz ((eLi eD) some_4),.no,.no]) (Yp (Y2 (e:=fun _=>Q0) (Ye (Jf 3 rfl) (Ju (Zh (q:=((Vb thing).bind asI)) (e:=Q0) (Je (Jf 1 rfl) Jh) (fun _ h=>Q6J _ _ h)) (fun v31=>Jh))) (fun v31 _ h=>g2x (Q3Z _ _ _ h))) (fun b32=>(Jv (δ':=[.fz ((eLi Q0) picks),.fz thing,.fz (Q0 (b3.1 % 9)),.fz (Q0 b3.2),.fz ((eLi eD) some_4),.no,.fz (Q0 b32.2)]) (Q2H (e:=(eLi eD)) (Q1b (z:=fun b51=>((eLi eD) ([b51.1.2,b51.2.1.2,b51.2.2.1,b51.2.2.2.1,b51.2.2.2.2]))) (Q1I (Xs (Y2 (e:=fun _=>eD) (Xs (Wg (q:=(Xj thing none (some b32.2))) (e:=eD) (Jf 1 rfl) Ya (Yc (Jf 6 rfl)) (fun _ h=>h)) (fun v35=>(Ju (Wg (q:=(Xj thing (some (b32.2 + 1)) none)) (e:=eD) (Jf 1 rfl) (Yc (Vt (Jf 6 rfl) (Jg:VP _ _ (.int 1)) (Yg _ _))) Ya (fun _ h=>h)) (fun v36=>Jh)))) (fun b37 _ h=>g2x (h))) (fun b38=>(Xs (Y2 (e:=fun _=>eD) (Xs (Wg (q:=(Xj thing none (some (b32.2 + 1)))) (e:=eD) (Jf 1 rfl) Ya (Yc (Vt (Jf 6 rfl) (Jg:VP _ _ (.int 1)) (Yg _ _))) (fun _ h=>h)) (fun v40=>(Ju (Wg (q:=(Xj thing (some b32.2) none)) (e:=eD) (Jf 1 rfl) (Yc (Jf 6 rfl)) Ya (fun _ h=>h)) (fun v41=>Jh)))) (fun b42 _ h=>g2x (h))) (fun b43=>(Xs (Q7Z (q:=(Q5j thing)) (e:=eD) (Jf 1 rfl) (fun _ h=>h)) (fun v45=>(Xs (Zh (q:=(Q2r thing)) (e:=eD) (Je (Jf 1 rfl) Jh) (fun _ h=>h)) (fun v46=>(Ju (Xk (q:=(Xe thing (Q0 b32.2))) (e:=eD) (Jf 1 rfl) (Jf 6 rfl) (fun _ h=>h)) (fun v47=>Jh))))))))))) (fun _=>rfl)) (fun _=>rfl) (fun b51 some_52=>(Jv (δ':=[.fz ((eLi Q0) picks),.fz thing,.fz (Q0 (b3.1 % 9)),.fz (Q0 b3.2),.fz ((eLi eD) some_52),.no,.fz (Q0 b32.2)]) (Yn (Y2 (e:=fun _=>eD) (Ju (Y2 (e:=fun _=>(eLi eD)) (Ye (Jf 4 rfl) (Ju (Q1b (z:=fun b63=>((eLi eD) ([b63.1.2,b63.2.1,b63.2.2.2]))) (Q1I (Xs (Y2 (e:=fun _=>eD) (Ye (Jf 1 rfl) (Ju (Q1b (z:=fun (v53:D)=>((eP1 eD) v53)) (Q4m (Ju (Xk (q:=(Xe thing (Q0 b32.2))) (e:=eD) (Jf 1 rfl) (Jf 6 rfl) (fun _ h=>h)) (fun v53=>Jh))) (fun _=>rfl)) (fun v53=>Jh))) (fun v53 _ h=>g2x (h))) (fun b54=>(Xs (Xk (q:=X2 thing ((eP1 (eTu Q0)) ([]))) (e:=eD) (Jf 1 rfl) ((X1 (Je ((X1 Jh):VP _ _ ((eTu Q0) ([]))) Jh)):VP _ _ ((eP1 (eTu Q0)) ([]))) (fun _ h=>h)) (fun v56=>(Ju (Y2 (e:=fun _=>eD) (Xs (Wg (q:=(Xj thing (some b32.2) none)) (e:=eD) (Jf 1 rfl) (Yc (Jf 6 rfl)) Ya (fun _ h=>h)) (fun v57=>(Ju (Wg (q:=(Xj thing none (some b32.2))) (e:=eD) (Jf 1 rfl) Ya (Yc (Jf 6 rfl)) (fun _ h=>h)) (fun v58=>Jh)))) (fun b59 _ h=>g2x (h))) (fun b60=>Jh))))))) (fun _=>rfl)) (fun b63=>Jh))) (fun b63 _ h=>g2x (Q4d _ _ _ h))) (fun b64=>(Je (Vt (Jf 2 rfl) (Jg:VP _ _ (.int 1)) (Z2 _ _)) Jh))) (fun b64 _ h=>g2x (V4 _ _ _ h))) (fun _=>rfl))))))))))))))))))))))))))))
def K9 (picks:(List Int)) (thing:D):Option D:=((((atI picks 2)).bind fun v1=>if (decide ((v1 % 3) = 0)) then some true else (if (!(Yz "tuple" thing)) then some true else (eqE thing ((eTu Q0) ([])))))).bind fun b6=>if b6 then ((Vk picks thing)).bind fun r7=>(some r7) else ((((((atI picks 3)).bind fun v8=>(((Vb thing).bind asI)).map fun v9=>(v8,v9))).bind fun b10=>(Q3u b10.1 b10.2).map fun v12=>(b10,v12))).bind fun b11=>((Xe thing (Q0 b11.2))).bind fun v14=>((if (Yz "tuple" v14) then (((neE v14 ((eTu Q0) ([])))).bind fun v16=>if v16 then (((atI picks 2)).map fun v17=>(decide ((v17 % 3) = 1))) else some false) else some false)).bind fun b21=>if b21 then ((((((atI picks 4)).bind fun v22=>(((Vb v14).bind asI)).map fun v23=>(v22,v23))).bind fun b24=>(Q3u b24.1 b24.2).map fun v26=>(b24,v26))).bind fun b25=>((((((((((Xj v14 none (some b25.2))).bind fun v28=>((((Xe v14 (Q0 b25.2))).bind fun v29=>(Vk picks v29).map fun v31=>(v29,v31))).map fun r30=>(v28,r30))).bind fun b32=>(X2 b32.1 ((eP1 eD) b32.2.2)).map fun v34=>(b32,v34))).bind fun b33=>((Xj v14 (some (b25.2 + 1)) none)).map fun v35=>(b33,v35))).bind fun b36=>(X2 b36.1.2 b36.2).map fun v38=>(b36,v38))).bind fun b37=>((((((((Xj thing none (some b11.2))).bind fun v40=>(X2 v40 ((eP1 eD) b37.2)).map fun v42=>(v40,v42))).bind fun b41=>((Xj thing (some (b11.2 + 1)) none)).map fun v43=>(b41,v43))).bind fun b44=>(X2 b44.1.2 b44.2).map fun v46=>(b44,v46))).bind fun b45=>(some b45.2) else ((((((((((Xj thing none (some b11.2))).bind fun v47=>((Vk picks v14)).map fun r48=>(v47,r48))).bind fun b49=>(X2 b49.1 ((eP1 eD) b49.2)).map fun v51=>(b49,v51))).bind fun b50=>((Xj thing (some (b11.2 + 1)) none)).map fun v52=>(b50,v52))).bind fun b53=>(X2 b53.1.2 b53.2).map fun v55=>(b53,v55))).bind fun b54=>(some b54.2)
theorem Q3f (picks:(List Int)) (thing:D):∀ v,K9 picks thing = some v → Ve [.fz ((eLi Q0) picks),.fz thing] = some (v,[.fz ((eLi Q0) picks),.fz thing]):=by
 exact Q0u (Jv (δ':=[.fz ((eLi Q0) picks),.fz thing,.no,.no,.no,.no]) (Vg (Q0T (Vy (Ks (Ju (Ks (Ju (Xk (q:=(atI picks 2)) (e:=Q0) (Jf 0 rfl) (Jg:VP _ _ (.int 2)) (fun _ h=>V4 _ _ _ h)) (fun v1=>(Je (Jg:VP _ _ (.int 3)) Jh))) (fun v1=>g2x (Xq _ _ (by decide)))) (fun v1=>(Je (Jg:VP _ _ (.int 0)) Jh))) (fun v1=>g2x (Q3b gI _ _))) (fun _=>rfl)) (fun _=>rfl) (fun v1=>(Q0x (r':=fun (c5:Bool)=>(c5,[.fz ((eLi Q0) picks),.fz thing,.no,.no,.no,.no])) (Q07 (v:=true) (Q0Y (Zv (Kd (Jf 1 rfl) (rfl)))) (Q0x (r':=fun (c3:Bool)=>(c3,[.fz ((eLi Q0) picks),.fz thing,.no,.no,.no,.no])) (Vy (Xk (q:=(eqE thing ((eTu Q0) ([])))) (e:=Q4) (Jf 1 rfl) ((X1 Jh):VP _ _ ((eTu Q0) ([]))) (fun _ h=>Q3p _ _ h)) (fun _=>rfl)) (fun _=>rfl)) rfl) (fun _=>rfl))) (fun _=>rfl)) (fun _=>rfl) (fun b6=>(X5 (Jv (δ':=[.fz ((eLi Q0) picks),.fz thing,.no,.no,.no,.no]) (Yn (X3 (X7 (Jf 0 rfl) (X7 (Jf 1 rfl) X8)) (Q0W _ _ )) (fun _=>rfl))))) (fun b6=>(Xt (Jv (δ':=[.fz ((eLi Q0) picks),.fz thing,.no,.no,.no,.no]) (Yp (Y2 (e:=fun _=>Q0) (Xs (Xk (q:=(atI picks 3)) (e:=Q0) (Jf 0 rfl) (Jg:VP _ _ (.int 3)) (fun _ h=>V4 _ _ _ h)) (fun v8=>(Ju (Zh (q:=((Vb thing).bind asI)) (e:=Q0) (Je (Jf 1 rfl) Jh) (fun _ h=>Q6J _ _ h)) (fun v9=>Jh)))) (fun b10 _ h=>g2x (Q3Z _ _ _ h))) (fun b11=>(Jv (δ':=[.fz ((eLi Q0) picks),.fz thing,.fz (Q0 b11.2),.no,.no,.no]) (Yp (Xk (q:=(Xe thing (Q0 b11.2))) (e:=eD) (Jf 1 rfl) (Jf 2 rfl) (fun _ h=>h)) (fun v14=>(Jv (δ':=[.fz ((eLi Q0) picks),.fz thing,.fz (Q0 b11.2),.fz v14,.no,.no]) (Vg (Q2U (v:=false) (Zv (Kd (Jf 3 rfl) (rfl))) (Q0x (r':=fun (c20:Bool)=>(c20,[.fz ((eLi Q0) picks),.fz thing,.fz (Q0 b11.2),.fz v14,.no,.no])) (Q7K (Vy (Xk (q:=(neE v14 ((eTu Q0) ([])))) (e:=Q4) (Jf 3 rfl) ((X1 Jh):VP _ _ ((eTu Q0) ([]))) (fun _ h=>Q3p _ _ h)) (fun _=>rfl)) (fun _=>rfl) (fun v16=>(K1 (r':=fun (c18:Bool)=>(c18,[.fz ((eLi Q0) picks),.fz thing,.fz (Q0 b11.2),.fz v14,.no,.no])) (Vy (Ks (Ju (Ks (Ju (Xk (q:=(atI picks 2)) (e:=Q0) (Jf 0 rfl) (Jg:VP _ _ (.int 2)) (fun _ h=>V4 _ _ _ h)) (fun v17=>(Je (Jg:VP _ _ (.int 3)) Jh))) (fun v17=>g2x (Xq _ _ (by decide)))) (fun v17=>(Je (Jg:VP _ _ (.int 1)) Jh))) (fun v17=>g2x (Q3b gI _ _))) (fun _=>rfl)) (fun _=>rfl))) (fun _=>rfl)) (fun _=>rfl)) rfl) (fun _=>rfl) (fun b21=>(X5 (Jv (δ':=[.fz ((eLi Q0) picks),.fz thing,.fz (Q0 b11.2),.fz v14,.no,.no]) (Yp (Y2 (e:=fun _=>Q0) (Xs (Xk (q:=(atI picks 4)) (e:=Q0) (Jf 0 rfl) (Jg:VP _ _ (.int 4)) (fun _ h=>V4 _ _ _ h)) (fun v22=>(Ju (Zh (q:=((Vb v14).bind asI)) (e:=Q0) (Je (Jf 3 rfl) Jh) (fun _ h=>Q6J _ _ h)) (fun v23=>Jh)))) (fun b24 _ h=>g2x (Q3Z _ _ _ h))) (fun b25=>(X5 (Jv (δ':=[.fz ((eLi Q0) picks),.fz thing,.fz (Q0 b11.2),.fz v14,.fz (Q0 b25.2),.no]) (Yp (Y2 (e:=fun _=>eD) (Xs (Y2 (e:=fun _=>eD) (Xs (Wg (q:=(Xj v14 none (some b25.2))) (e:=eD) (Jf 3 rfl) Ya (Yc (Jf 4 rfl)) (fun _ h=>h)) (fun v28=>(Ju (Q1b (z:=fun (r30:D × D)=>((eP1 eD) r30.2)) (Q4m (Ju (Q0C (Q9I (Jf 0 rfl) (Q4M (Xk (q:=(Xe v14 (Q0 b25.2))) (e:=eD) (Jf 3 rfl) (Jf 4 rfl) (fun _ h=>h)) (fun v29=>X8))) (fun v29=>Q0W picks v29)) (fun r30=>Jh))) (fun _=>rfl)) (fun r30=>Jh)))) (fun b32 _ h=>g2x (h))) (fun b33=>(Ju (Wg (q:=(Xj v14 (some (b25.2 + 1)) none)) (e:=eD) (Jf 3 rfl) (Yc (Vt (Jf 4 rfl) (Jg:VP _ _ (.int 1)) (Yg _ _))) Ya (fun _ h=>h)) (fun v35=>Jh)))) (fun b36 _ h=>g2x (h))) (fun b37=>(X5 (Jv (δ':=[.fz ((eLi Q0) picks),.fz thing,.fz (Q0 b11.2),.fz v14,.fz (Q0 b25.2),.fz b37.2]) (Yn (Y2 (e:=fun _=>eD) (Xs (Y2 (e:=fun _=>eD) (Ju (Wg (q:=(Xj thing none (some b11.2))) (e:=eD) (Jf 1 rfl) Ya (Yc (Jf 2 rfl)) (fun _ h=>h)) (fun v40=>(Je ((X1 (Je (Jf 5 rfl) Jh)):VP _ _ ((eP1 eD) b37.2)) Jh))) (fun v40 _ h=>g2x (h))) (fun b41=>(Ju (Wg (q:=(Xj thing (some (b11.2 + 1)) none)) (e:=eD) (Jf 1 rfl) (Yc (Vt (Jf 2 rfl) (Jg:VP _ _ (.int 1)) (Yg _ _))) Ya (fun _ h=>h)) (fun v43=>Jh)))) (fun b44 _ h=>g2x (h))) (fun _=>rfl))))))))))))) (fun b21=>(Q3V (Jv (δ':=[.fz ((eLi Q0) picks),.fz thing,.fz (Q0 b11.2),.fz v14,.no,.no]) (Yn (Y2 (e:=fun _=>eD) (Xs (Y2 (e:=fun _=>eD) (Xs (Wg (q:=(Xj thing none (some b11.2))) (e:=eD) (Jf 1 rfl) Ya (Yc (Jf 2 rfl)) (fun _ h=>h)) (fun v47=>(Ju (Q1b (z:=fun r48=>((eP1 eD) r48)) (Q4m (Ju (X3 (X7 (Jf 0 rfl) (X7 (Jf 3 rfl) X8)) (Q0W _ _ )) (fun r48=>Jh))) (fun _=>rfl)) (fun r48=>Jh)))) (fun b49 _ h=>g2x (h))) (fun b50=>(Ju (Wg (q:=(Xj thing (some (b11.2 + 1)) none)) (e:=eD) (Jf 1 rfl) (Yc (Vt (Jf 2 rfl) (Jg:VP _ _ (.int 1)) (Yg _ _))) Ya (fun _ h=>h)) (fun v52=>Jh)))) (fun b53 _ h=>g2x (h))) (fun _=>rfl)))))))))))))))))
def Y1 (thing:D):Option Bool:=((Zl thing)).bind fun v1=>(Q0U (fun x4 s3=>((Ka thing)).bind fun r5=>((if (!true) then some true else (((Wr thing)).bind fun r7=>if (!decide (r5 = r7)) then some true else (((Zl thing)).map fun v8=>(!decide (v8 = v1)))))).bind fun b12=>if b12 then (some (Sum.inr false)) else (some (Sum.inl ()))) (Q0d 0 (2:Int).toNat) ()).bind (Sum.elim (fun s3=>(some true)) (fun v14=>(some v14)))
theorem Q12 (thing:D):∀ v,Y1 thing = some v → Yj [.fz thing] = some ((Q4 v),[.fz thing]):=by
 exact Q0u (Yp (Zh (q:=(Zl thing)) (e:=Q2) (Je (Jf 0 rfl) Jh) (fun _ h=>Q3j _ _ h)) (fun v1=>(Q0X (Jv (δ':=[.fz thing,.fz (Q2 v1),.no,.no]) (Q0A (e:=Q0) (st:=fun s3=>[.fz thing,.fz (Q2 v1),.no,.no]) (s0:=()) (rv:=fun v13=>(Q4 v13)) (ro:=fun v13=>[.fz thing]) (Q0p (Je (Jg:VP _ _ (.int 2)) Jh)) (fun x4 s3=>(Wh 2)) (fun x4 s3=>(Yp (X3 (X7 (Jf 0 rfl) X8) (Q2i _ )) (fun r5=>(Jv (δ':=[.fz thing,.fz (Q2 v1),.fz (Q0 x4),.fz (Q4 r5)]) (Vg (Q07 (v:=true) (Q0Y (Zv (Kd (Jf 3 rfl) (rfl)))) (Q0x (r':=fun (c11:Bool)=>(c11,[.fz thing,.fz (Q2 v1),.fz (Q0 x4),.fz (Q4 r5)])) (Q0T (Vy (Ks (Ye (Jf 3 rfl) (Ju (X3 (X7 (Jf 0 rfl) X8) (Q3R _ )) (fun r7=>Jh))) (fun r7=>g2x (Q6R gB _ _))) (fun _=>rfl)) (fun _=>rfl) (fun r7=>(K1 (r':=fun (c9:Bool)=>(c9,[.fz thing,.fz (Q2 v1),.fz (Q0 x4),.fz (Q4 r5)])) (Vy (Ks (Ju (Zh (q:=(Zl thing)) (e:=Q2) (Je (Jf 0 rfl) Jh) (fun _ h=>Q3j _ _ h)) (fun v8=>(Je (Jf 1 rfl) Jh))) (fun v8=>g2x (Q6R gS _ _))) (fun _=>rfl)) (fun _=>rfl))) (fun _=>rfl)) (fun _=>rfl)) rfl) (fun _=>rfl) (fun b12=>(X5 (Yl (Jg:VP _ _ (.bool false)) rfl))) (fun b12=>(Xt (Wc (v:=(Sum.inl ())) rfl)))))))) (fun _=>⟨_,rfl,rfl⟩) (fun s3=>(Yl (Jg:VP _ _ (.bool true)) rfl)))))))
def Q1z :Option (List D):=(Q6E (fun x2 s1=>(some (((eP1 eD) s1.1),((eLi eD) ([s1.2]))))) (Q0d 0 (27:Int).toNat) (((eTu Q0) ([])),((eLi Q0) ([])))).bind fun s1=>(some [((eP2 Q2 eD) (("drop":Str),s1.1)),((eP2 Q2 eD) (("drop":Str),s1.2)),s1.1,s1.2])
theorem Q6D :∀ v,Q1z  = some v → W0 [] = some (((eLi eD) v),[]):=by
 exact Q0u (Q4T (Je ((X1 Jh):VP _ _ ((eTu Q0) ([]))) (Je ((Yv Jh):VP _ _ ((eLi Q0) ([]))) Jh)) (Q0X (Jv (δ':=[.fz ((eTu Q0) ([])),.fz ((eLi Q0) ([])),.no]) (Q8t (e:=Q0) (st:=fun s1=>[.fz s1.1,.fz s1.2,.no]) (s0:=(((eTu Q0) ([])),((eLi Q0) ([])))) (Q0p (Je (Jg:VP _ _ (.int 27)) Jh)) (fun x2 s1=>(Wh 2)) (fun x2 s1=>(Q4T (Je ((X1 (Je (Jf 0 rfl) Jh)):VP _ _ ((eP1 eD) s1.1)) (Je ((Yv (Je (Jf 1 rfl) Jh)):VP _ _ ((eLi eD) ([s1.2]))) Jh)) (Wc (v:=(((eP1 eD) s1.1),((eLi eD) ([s1.2])))) rfl)))  (fun s1=>(Yl ((Yv (Je ((X1 (Je (Jg:VP _ _ (.str ("drop":Str))) (Je (Jf 0 rfl) Jh))):VP _ _ ((eP2 Q2 eD) (("drop":Str),s1.1))) (Je ((X1 (Je (Jg:VP _ _ (.str ("drop":Str))) (Je (Jf 1 rfl) Jh))):VP _ _ ((eP2 Q2 eD) (("drop":Str),s1.2))) (Je (Jf 0 rfl) (Je (Jf 1 rfl) Jh))))):VP _ _ ((eLi eD) ([((eP2 Q2 eD) (("drop":Str),s1.1)),((eP2 Q2 eD) (("drop":Str),s1.2)),s1.1,s1.2]))) rfl))))))
def Q6t (script:List Int):Option Bool:=((V5 )).bind fun r1=>Q0a (r1.map (·.1)) fun words_2=>(Q0U (fun x4 s3=>((K0 (rngK 16) (Q1k (fun x13 s12=>(((K0 (rngK 5) (Q1k (fun x17 s16=>(((Ww s16 55440)).map fun r18=>(r18.1,r18.2))) (rngK 5) s12))).map fun l19=>(l19.1,l19.2))) (rngK 16) s3))).bind fun l20=>((((((((Ww l20.2 6)).bind fun r22=>((atI words_2 ((x4 + r22.1) % 6))).map fun v24=>(r22,v24))).bind fun b23=>((((Ww b23.1.2 4)).bind fun r25=>((atI ([12,12,12,200]) r25.1)).map fun v27=>(r25,v27))).map fun b26=>(b23,b26))).bind fun b28=>(Q0H b28.2.1.2 b28.1.2 b28.2.2).map fun v30=>(b28,v30))).bind fun r29=>((Ka r29.2.1)).bind fun r32=>if (!decide (r32 = true)) then (some (Sum.inr false)) else (Q0U (fun x34 s33=>((((atI l20.1 (2 * x34))).bind fun v35=>(K9 v35 r29.2.1).map fun v37=>(v35,v37))).bind fun r36=>(((((atI l20.1 (2 * x34))).bind fun v39=>((atI v39 4)).map fun v41=>(v39,v41))).bind fun b40=>if (decide ((b40.2 % 2) = 1)) then ((((atI l20.1 ((2 * x34) + 1))).bind fun v43=>(K9 v43 r36.2).map fun v45=>(v43,v45))).bind fun r44=>(some r44.2) else (some r36.2)).bind fun s42=>((Y1 s42)).bind fun r47=>if (!r47) then (some (Sum.inr false)) else (some (Sum.inl ()))) (Q0d 0 (8:Int).toNat) ()).bind (Sum.elim (fun s33=>((Y1 r29.2.1)).bind fun r48=>if (!r48) then (some (Sum.inr false)) else (some (Sum.inl r29.2.2))) (fun v50=>(some (Sum.inr v50))))) (Q0d 0 (6:Int).toNat) (Q1J script)).bind (Sum.elim (fun s3=>Q0a ([.none,(Q4 true),(Q0 0),(Q2 ("drop":Str)),(Q2 ("":Str)),((eTu Q0) ([])),((eLi Q0) ([])),((eDi Q0 Q0) ([])),((eP1 Q2) ("drop":Str)),((eP2 Q2 (eTu Q0)) (("drop":Str),[])),((eLi eD) ([(Q2 ("drop":Str)),((eTu Q0) ([]))])),((eP3 Q2 (eTu Q0) (eTu Q0)) (("drop":Str),[],[]))]) fun some_51=>(((((Q19 some_51 ([((eP2 (eP1 Q2) (eTu Q0)) (("drop":Str),[])),((eP2 Q2 (eP1 Q0)) (("drop":Str),0)),((eP3 Q2 (eTu Q0) (eTu Q0)) (("write":Str),[],[]))])).bind fun v52=>((Q1z )).map fun r53=>(v52,r53))).bind fun b54=>(Q19 b54.1 b54.2).map fun v56=>(b54,v56))).bind fun b55=>((((K0 b55.2 (Z4 (fun x58=>(((Y1 x58)).map fun r59=>(!r59))) (fun x58=>(some x58)) b55.2))).bind fun l60=>((eqZ ((eLi eD) l60) ((eLi Q0) ([])))).map fun v62=>(l60,v62))).bind fun b61=>(some b61.2)) (fun v64=>(some v64)))
theorem Qa1 (script:List Int):∀ v,Q6t script = some v → φ_law [.scr script] = some ((Q4 v),[.scr script]):=by
 exact Q0u (Jv (δ':=[.scr script,.no,.no,.no,.no,.no,.no,.no,.no,.no]) (Q7R (Jv (δ':=[.scr script,sDk (Q1J script),.no,.no,.no,.no,.no,.no,.no,.no]) (Q2H (e:=(eLi Q2)) (Q60 (Ju (X3 X8 (Zt )) (fun r1=>Jh)) (fun r1=>Q7A _)) (fun _=>rfl) (fun r1 words_2=>(Q0X (Jv (δ':=[.scr script,sDk (Q1J script),.fz ((eLi Q2) words_2),.no,.no,.no,.no,.no,.no,.no]) (Q0A (e:=Q0) (st:=fun s3=>[.scr script,sDk s3,.fz ((eLi Q2) words_2),.no,.no,.no,.no,.no,.no,.no]) (s0:=(Q1J script)) (rv:=fun v63=>(Q4 v63)) (ro:=fun v63=>[.scr script]) (Q0p (Je (Jg:VP _ _ (.int 6)) Jh)) (fun x4 s3=>(Wh 3)) (fun x4 s3=>(Jv (δ':=[.scr script,sDk s3,.fz ((eLi Q2) words_2),.fz (Q0 x4),.no,.no,.no,.no,.no,.no]) (Q7i (Q1m (e:=Q0) (e':=(eLi Q0)) (st:=fun s12=>[.scr script,sDk s12,.fz ((eLi Q2) words_2),.fz (Q0 x4),.no,.no,.no,.no,.no,.no]) (s0:=s3) (δb:=fun x13 s12=>[.scr script,sDk s12,.fz ((eLi Q2) words_2),.fz (Q0 x4),.no,.no,.no,.no,.fz (Q0 x13),.no]) (Q4K (Je (Jg:VP _ _ (.int 16)) Jh)) (fun x13 s12=>(Wh 8)) (fun x13 s12=>(Q1s (Q1m (e:=Q0) (e':=Q0) (st:=fun s16=>[.scr script,sDk s16,.fz ((eLi Q2) words_2),.fz (Q0 x4),.no,.no,.no,.no,.fz (Q0 x13),.no]) (s0:=s12) (δb:=fun x17 s16=>[.scr script,sDk s16,.fz ((eLi Q2) words_2),.fz (Q0 x4),.no,.no,.fz (Q0 x17),.no,.fz (Q0 x13),.no]) (Q4K (Je (Jg:VP _ _ (.int 5)) Jh)) (fun x17 s16=>(Wh 6)) (fun x17 s16=>(Q1s (X3 (Z9 1 (X7 (Jg:VP _ _ (.int 55440)) X8)) (Zc _ _ )) (fun _=>rfl)))) (fun _=>rfl)))) (fun l20=>(Jv (δ':=[.scr script,sDk l20.2,.fz ((eLi Q2) words_2),.fz (Q0 x4),.ow ((eLi (eLi Q0)) l20.1),.no,.no,.no,.no,.no]) (Yp (Q0C (Q8Z 1 (Qa5 (Y2 (e:=fun _=>Q2) (Ye (Jf 2 rfl) (Ju (Ks (Ju (Ks (Ye (Jf 3 rfl) (Ju (X3 (Z9 1 (X7 (Jg:VP _ _ (.int 6)) X8)) (Zc _ _ )) (fun r22=>Jh))) (fun r22=>g2x (Yg _ _))) (fun r22=>(Je (Jg:VP _ _ (.int 6)) Jh))) (fun r22=>g2x (Xq _ _ (by decide)))) (fun r22=>Jh))) (fun r22 _ h=>g2x (V4 _ _ _ h))) (fun b23=>(Q4M (Y2 (e:=fun _=>Q0) (Ye ((Yv (Je (Jg:VP _ _ (.int 12)) (Je (Jg:VP _ _ (.int 12)) (Je (Jg:VP _ _ (.int 12)) (Je (Jg:VP _ _ (.int 200)) Jh))))):VP _ _ ((eLi Q0) ([12,12,12,200]))) (Ju (X3 (Z9 1 (X7 (Jg:VP _ _ (.int 4)) X8)) (Zc _ _ )) (fun r25=>Jh))) (fun r25 _ h=>g2x (V4 _ _ _ h))) (fun b26=>X8))))) (fun b28=>Q5x b28.2.1.2 b28.1.2 b28.2.2)) (fun r29=>(Jv (δ':=[.scr script,sDk r29.2.2,.fz ((eLi Q2) words_2),.fz (Q0 x4),.ow ((eLi (eLi Q0)) l20.1),.fz r29.2.1,.no,.no,.no,.no]) (Vg (Vy (Ks (Ju (X3 (X7 (Jf 5 rfl) X8) (Q2i _ )) (fun r32=>(Je (Jg:VP _ _ (.bool true)) Jh))) (fun r32=>g2x (rfl))) (fun _=>rfl)) (fun _=>rfl) (fun r32=>(X5 (Jv (δ':=[.scr script,sDk r29.2.2,.fz ((eLi Q2) words_2),.fz (Q0 x4),.ow ((eLi (eLi Q0)) l20.1),.fz r29.2.1,.no,.no,.no,.no]) (Yl (Jg:VP _ _ (.bool false)) rfl)))) (fun r32=>(Xt (Q0X (Jv (δ':=[.scr script,sDk r29.2.2,.fz ((eLi Q2) words_2),.fz (Q0 x4),.ow ((eLi (eLi Q0)) l20.1),.fz r29.2.1,.no,.no,.no,.no]) (Q0A (e:=Q0) (st:=fun s33=>[.scr script,sDk r29.2.2,.fz ((eLi Q2) words_2),.fz (Q0 x4),.ow ((eLi (eLi Q0)) l20.1),.fz r29.2.1,.no,.no,.no,.no]) (s0:=()) (rv:=fun v49=>(Q4 v49)) (ro:=fun v49=>[.scr script]) (Q0p (Je (Jg:VP _ _ (.int 8)) Jh)) (fun x34 s33=>(Wh 6)) (fun x34 s33=>(Jv (δ':=[.scr script,sDk r29.2.2,.fz ((eLi Q2) words_2),.fz (Q0 x4),.ow ((eLi (eLi Q0)) l20.1),.fz r29.2.1,.fz (Q0 x34),.no,.no,.no]) (Yp (Q0C (Q4M (Xk (q:=(atI l20.1 (2 * x34))) (e:=(eLi Q0)) (Q5u 4 rfl:VP _ _ ((eLi (eLi Q0)) l20.1)) (Vt (Jg:VP _ _ (.int 2)) (Jf 6 rfl) (Q0e _ _ rfl)) (fun _ h=>V4 _ _ _ h)) (fun v35=>(X7 (Jf 5 rfl) X8))) (fun v35=>Q3f v35 r29.2.1)) (fun r36=>(Jv (δ':=[.scr script,sDk r29.2.2,.fz ((eLi Q2) words_2),.fz (Q0 x4),.ow ((eLi (eLi Q0)) l20.1),.fz r29.2.1,.fz (Q0 x34),.fz r36.2,.no,.no]) (Q7a (st:=fun s42=>[.scr script,sDk r29.2.2,.fz ((eLi Q2) words_2),.fz (Q0 x4),.ow ((eLi (eLi Q0)) l20.1),.fz r29.2.1,.fz (Q0 x34),.fz s42,.no,.no]) (Q7J (Vy (Ks (Ju (Ks (Ju (Y2 (e:=fun _=>Q0) (Ju (Xk (q:=(atI l20.1 (2 * x34))) (e:=(eLi Q0)) (Q5u 4 rfl:VP _ _ ((eLi (eLi Q0)) l20.1)) (Vt (Jg:VP _ _ (.int 2)) (Jf 6 rfl) (Q0e _ _ rfl)) (fun _ h=>V4 _ _ _ h)) (fun v39=>(Je (Jg:VP _ _ (.int 4)) Jh))) (fun v39 _ h=>g2x (V4 _ _ _ h))) (fun b40=>(Je (Jg:VP _ _ (.int 2)) Jh))) (fun b40=>g2x (Xq _ _ (by decide)))) (fun b40=>(Je (Jg:VP _ _ (.int 1)) Jh))) (fun b40=>g2x (Q3b gI _ _))) (fun _=>rfl)) (fun _=>rfl) (fun b40=>(Jv (δ':=[.scr script,sDk r29.2.2,.fz ((eLi Q2) words_2),.fz (Q0 x4),.ow ((eLi (eLi Q0)) l20.1),.fz r29.2.1,.fz (Q0 x34),.fz r36.2,.no,.no]) (Yp (Q0C (Q4M (Xk (q:=(atI l20.1 ((2 * x34) + 1))) (e:=(eLi Q0)) (Q5u 4 rfl:VP _ _ ((eLi (eLi Q0)) l20.1)) (Vt (Vt (Jg:VP _ _ (.int 2)) (Jf 6 rfl) (Q0e _ _ rfl)) (Jg:VP _ _ (.int 1)) (Yg _ _)) (fun _ h=>V4 _ _ _ h)) (fun v43=>(X7 (Jf 7 rfl) X8))) (fun v43=>Q3f v43 r36.2)) (fun r44=>(Q6M (v:=r44.2) rfl))))) (fun b40=>(Q6M (v:=r36.2) rfl))) (fun s42=>(Jv (δ':=[.scr script,sDk r29.2.2,.fz ((eLi Q2) words_2),.fz (Q0 x4),.ow ((eLi (eLi Q0)) l20.1),.fz r29.2.1,.fz (Q0 x34),.fz s42,.no,.no]) (Vg (Km (Vy (X3 (X7 (Jf 7 rfl) X8) (Q12 _ )) (fun _=>rfl))) (fun _=>rfl) (fun r47=>(X5 (Jv (δ':=[.scr script,sDk r29.2.2,.fz ((eLi Q2) words_2),.fz (Q0 x4),.ow ((eLi (eLi Q0)) l20.1),.fz r29.2.1,.fz (Q0 x34),.fz s42,.no,.no]) (Yl (Jg:VP _ _ (.bool false)) rfl)))) (fun r47=>(Xt (Wc (v:=(Sum.inl ())) rfl)))))))))))) (fun _=>⟨_,rfl,rfl⟩) (fun s33=>(Jv (δ':=[.scr script,sDk r29.2.2,.fz ((eLi Q2) words_2),.fz (Q0 x4),.ow ((eLi (eLi Q0)) l20.1),.fz r29.2.1,.no,.no,.no,.no]) (Vg (Km (Vy (X3 (X7 (Jf 5 rfl) X8) (Q12 _ )) (fun _=>rfl))) (fun _=>rfl) (fun r48=>(X5 (Jv (δ':=[.scr script,sDk r29.2.2,.fz ((eLi Q2) words_2),.fz (Q0 x4),.ow ((eLi (eLi Q0)) l20.1),.fz r29.2.1,.no,.no,.no,.no]) (Yl (Jg:VP _ _ (.bool false)) rfl)))) (fun r48=>(Xt (Wc (v:=(Sum.inl r29.2.2)) rfl)))))))))))))))))))) (fun _=>⟨_,rfl,rfl⟩) (fun s3=>(Jv (δ':=[.scr script,sDk s3,.fz ((eLi Q2) words_2),.no,.no,.no,.no,.no,.no,.no]) (Q2A (e:=(eLi eD)) (v:=[.none,(Q4 true),(Q0 0),(Q2 ("drop":Str)),(Q2 ("":Str)),((eTu Q0) ([])),((eLi Q0) ([])),((eDi Q0 Q0) ([])),((eP1 Q2) ("drop":Str)),((eP2 Q2 (eTu Q0)) (("drop":Str),[])),((eLi eD) ([(Q2 ("drop":Str)),((eTu Q0) ([]))])),((eP3 Q2 (eTu Q0) (eTu Q0)) (("drop":Str),[],[]))]) ((Yv (Je (Jg:VP _ _ .none) (Je (Jg:VP _ _ (.bool true)) (Je (Jg:VP _ _ (.int 0)) (Je (Jg:VP _ _ (.str ("drop":Str))) (Je (Jg:VP _ _ (.str ("":Str))) (Je ((X1 Jh):VP _ _ ((eTu Q0) ([]))) (Je ((Yv Jh):VP _ _ ((eLi Q0) ([]))) (Je (Q2E) (Je ((X1 (Je (Jg:VP _ _ (.str ("drop":Str))) Jh)):VP _ _ ((eP1 Q2) ("drop":Str))) (Je ((X1 (Je (Jg:VP _ _ (.str ("drop":Str))) (Je ((X1 Jh):VP _ _ ((eTu Q0) ([]))) Jh))):VP _ _ ((eP2 Q2 (eTu Q0)) (("drop":Str),[]))) (Je ((Yv (Je (Jg:VP _ _ (.str ("drop":Str))) (Je ((X1 Jh):VP _ _ ((eTu Q0) ([]))) Jh))):VP _ _ ((eLi eD) ([(Q2 ("drop":Str)),((eTu Q0) ([]))]))) (Je ((X1 (Je (Jg:VP _ _ (.str ("drop":Str))) (Je ((X1 Jh):VP _ _ ((eTu Q0) ([]))) (Je ((X1 Jh):VP _ _ ((eTu Q0) ([]))) Jh)))):VP _ _ ((eP3 Q2 (eTu Q0) (eTu Q0)) (("drop":Str),[],[]))) Jh))))))))))))):VP _ _ ((eLi eD) ([.none,(Q4 true),(Q0 0),(Q2 ("drop":Str)),(Q2 ("":Str)),((eTu Q0) ([])),((eLi Q0) ([])),((eDi Q0 Q0) ([])),((eP1 Q2) ("drop":Str)),((eP2 Q2 (eTu Q0)) (("drop":Str),[])),((eLi eD) ([(Q2 ("drop":Str)),((eTu Q0) ([]))])),((eP3 Q2 (eTu Q0) (eTu Q0)) (("drop":Str),[],[]))]))) (fun some_51=>(Jv (δ':=[.scr script,sDk s3,.fz ((eLi Q2) words_2),.no,.no,.no,.no,.no,.no,.fz ((eLi eD) some_51)]) (Yp (Y2 (e:=fun _=>(eLi eD)) (Xs (Xk (q:=Q19 some_51 ([((eP2 (eP1 Q2) (eTu Q0)) (("drop":Str),[])),((eP2 Q2 (eP1 Q0)) (("drop":Str),0)),((eP3 Q2 (eTu Q0) (eTu Q0)) (("write":Str),[],[]))])) (e:=(eLi eD)) (Jf 9 rfl) ((Yv (Je ((X1 (Je ((X1 (Je (Jg:VP _ _ (.str ("drop":Str))) Jh)):VP _ _ ((eP1 Q2) ("drop":Str))) (Je ((X1 Jh):VP _ _ ((eTu Q0) ([]))) Jh))):VP _ _ ((eP2 (eP1 Q2) (eTu Q0)) (("drop":Str),[]))) (Je ((X1 (Je (Jg:VP _ _ (.str ("drop":Str))) (Je ((X1 (Je (Jg:VP _ _ (.int 0)) Jh)):VP _ _ ((eP1 Q0) 0)) Jh))):VP _ _ ((eP2 Q2 (eP1 Q0)) (("drop":Str),0))) (Je ((X1 (Je (Jg:VP _ _ (.str ("write":Str))) (Je ((X1 Jh):VP _ _ ((eTu Q0) ([]))) (Je ((X1 Jh):VP _ _ ((eTu Q0) ([]))) Jh)))):VP _ _ ((eP3 Q2 (eTu Q0) (eTu Q0)) (("write":Str),[],[]))) Jh)))):VP _ _ ((eLi eD) ([((eP2 (eP1 Q2) (eTu Q0)) (("drop":Str),[])),((eP2 Q2 (eP1 Q0)) (("drop":Str),0)),((eP3 Q2 (eTu Q0) (eTu Q0)) (("write":Str),[],[]))]))) (fun _ h=>Q4d _ _ _ h)) (fun v52=>(Ju (X3 X8 (Q6D )) (fun r53=>Jh)))) (fun b54 _ h=>g2x (Q4d _ _ _ h))) (fun b55=>(Jv (δ':=[.scr script,sDk s3,.fz ((eLi Q2) words_2),.no,.no,.no,.no,.no,.no,.fz ((eLi eD) b55.2)]) (Yn (Y2 (e:=fun _=>Q4) (Ju (Q4i (e:=eD) (e':=eD) (Q9t (Jf 9 rfl) (Q9E _)) (fun x58=>(Wh 7)) (fun x58=>(K1 (Km (Vy (X3 (X7 (Jf 7 rfl) X8) (Q12 _ )) (fun _=>rfl))) (fun _=>rfl))) (fun x58=>(Q87 (v:=x58) (Jf 7 rfl) rfl))) (fun l60=>(Je ((Yv Jh):VP _ _ ((eLi Q0) ([]))) Jh))) (fun l60 _ h=>g2x (Q3p _ _ h))) (fun _=>rfl))))))))))))))))))
end K32
namespace K32
open PySem PySem.Spec PyProof.Rows L2 Z
variable {ι τ σ ρ:Type}
theorem Q9w {α:Type} {e:α → D} {n:Nat} [DecidableEq α] (g:Gd e n) (a b:α) (hn:n ≤ 64:=by decide):eqD (e a) (e b) = some (decide (a = b)):=by
 have h:=Q3b g a b hn
 unfold bD at h
 cases q:eqD (e a) (e b) with
 | none=>rw [q] at h; cases h
 | some v =>
  rw [q] at h
  have h:=J2.inj h
  injection h with h
  rw [h]
theorem Q1O {step:ι → Unit → Option (Unit ⊕ Bool)} (p:ι → Bool):∀ xs:List ι,(∀ x ∈ xs,step x () = some (if p x then .inl () else .inr false)) → Q0U step xs () = some (if xs.all p then .inl () else .inr false)
 | [],_=>rfl
 | x :: xs,h=>by
  unfold Q0U
  rw [h x (Qd ..),Q1,List.all_cons]
  cases p x
  ·rfl
  ·rw [Bool.true_and]
   exact Q1O p xs fun y hy=>h y (Q9 _ hy)
structure SV (L m k:Nat) (d:D):Prop where
 s:d.showable = true
 l:d.leavesShort L = true
 dp:d.depth ≤ k
 b:d.bulk ≤ m
theorem SV.mon {L n k n' k':Nat} {d:D} (h:SV L n k d) (a:n ≤ n') (b:k ≤ k'):SV L n' k' d:=⟨h.s,h.l,Qj h.dp b,Qj h.b a⟩
theorem Qa8 {i:Int} (h:i.natAbs < 10000000):SV 8 0 0 (.int i):=by
 refine ⟨?_,?_,Q5 _,Q5 _⟩
 ·simp only [J9]
  by_cases c:i = 0
  ·subst c; decide
  ·have:i.natAbs.log2 < 24:=(Nat.log2_lt (by omega)).mpr (Nat.lt_trans h (by decide))
   simp; omega
 ·simp only [J7,decide_eq_true_eq]
  have e:=int_text_length_le10 (k:=7) (by decide) h
  show (Str.ofString (toString i)).length ≤ 8
  rw [PySem.ofString_length]
  omega
theorem Q41 {L n k:Nat}:∀ (ds:List D),(∀ d ∈ ds,SV L n k d) → PyData.showableAll ds = true ∧ PyData.leavesShortAll L ds = true ∧ Qr ds ≤ k ∧ Qb ds ≤ (n + 1) * ds.length
 | [],_=>⟨rfl,rfl,J3 _,J3 _⟩
 | d :: ds,h=>by
  obtain ⟨a1,a3,a4,a5⟩:=Q41 ds fun x hx=>h x (Q9 _ hx)
  have hd:=h d (Qd ..)
  refine ⟨?_,?_,?_,?_⟩
  ·simp only [PyData.showableAll,hd.s,a1,Bool.and_true]
  ·simp only [PyData.leavesShortAll,hd.l,a3,Bool.and_true]
  ·have:=hd.dp
   simp only [Qr]
   omega
  ·have:=hd.b
   simp only [Qb,Q8]
   rw [Nat.mul_add,Nat.mul_one]
   omega
theorem Q9K {L n:Nat} {d:D} (h:SV L n 64 d) (h8:8 ≤ L) (hw:(L + 2) * n + L ≤ 16777216):Zl d = some d.shown:=by
 have e1:=PyData.shown_le_bulk L h8 d h.l
 have e2:(L + 2) * d.bulk ≤ (L + 2) * n:=Nat.mul_le_mul_left _ h.b
 have e:d.shown.length ≤ sizeLine:=by rw [sizeLine_eq]; omega
 unfold Zl Ko
 rw [h.s,decide_eq_true e,decide_eq_true h.dp]
 rfl
theorem Q2O {xs:List ι} {o:Option τ} (h:xs.length ≤ 1000000):K0 xs o = o:=if_pos (Qj h Q0Q)
theorem Q1N {f:ι → Option τ} (g:ι → τ):∀ {xs:List ι},(∀ x ∈ xs,f x = some (g x)) → Q2G f xs = some (xs.map g)
 | [],_=>rfl
 | x :: xs,h=>by
  show (f x).bind (fun y=>(Q2G f xs).map fun ys=>y :: ys) = _
  rw [h x (Qd ..),Q1N g fun y hy=>h y (Q9 _ hy)]
  rfl
theorem Q0Z {c:ι → Option Bool} (b:ι → Bool):∀ {xs:List ι},(∀ x ∈ xs,c x = some (b x)) → Z4 c (fun x=>some x) xs = some (xs.filter b)
 | [],_=>rfl
 | x :: xs,h=>by
  unfold Z4
  rw [h x (Qd ..),Q1,Q0Z b fun y hy=>h y (Q9 _ hy),List.filter_cons]
  cases b x <;> rfl
def isW (d:D):Bool:=match d with
 | .int _=>true
 | _=>false
theorem Q5E (d:D):(Yz "int" d && !Yz "bool" d) = isW d:=by
 cases d with
 | bool b=>cases b <;> rfl
 | none=>rfl
 | int _=>rfl
 | str _=>rfl
 | list _=>rfl
 | tuple _=>rfl
 | dict _=>rfl
theorem Q5Q (d:D):Yu d = some (isW d):=by
 unfold Yu
 rw [Q5E]
structure SL (m k:Nat) (ds:List D):Prop where
 a:∀ d ∈ ds,SV 61 m k d
 b:Qb ds ≤ m
theorem Q1S:∀ xs ys:List D,Qb (xs ++ ys) = Qb xs + Qb ys
 | [],ys=>by simp [Qb]
 | x :: xs,ys=>by
  rw [List.cons_append]
  simp only [Qb]
  rw [Q1S xs ys]
  omega
theorem Q0l:∀ {xs ys:List D},xs.Sublist ys → Qb xs ≤ Qb ys
 | _,_,.slnil=>Q5 _
 | _,_,.cons a h=>by
  have:=Q0l h
  simp only [Qb]
  omega
 | _,_,.cons₂ a h=>by
  have:=Q0l h
  simp only [Qb]
  omega
theorem Q5z (xs:List D):Qb xs.reverse = Qb xs:=by
 induction xs with
 | nil=>rfl
 | cons x xs ih =>
  rw [List.reverse_cons,Q1S,ih]
  simp only [Qb]
  omega
theorem Z1:∀ zs:List D,zs.length ≤ Qb zs:=fun zs=>by
 induction zs with
 | nil=>exact J3 _
 | cons z zs ih =>
  simp only [Qb,Q8]
  omega
theorem SL.mon {m k m' k':Nat} {ds:List D} (h:SL m k ds) (a:m ≤ m') (b:k ≤ k'):SL m' k' ds:=⟨fun d hd=>(h.a d hd).mon a b,Qj h.b a⟩
theorem SL.app {m k m' k':Nat} {xs ys:List D} (h:SL m k xs) (h':SL m' k' ys):SL (m + m') (max k k') (xs ++ ys):=⟨fun d hd=>(Qo.mp hd).elim (fun q=>(h.a d q).mon (by omega) (by omega)) (fun q=>(h'.a d q).mon (by omega) (by omega)),by rw [Q1S]; have:=h.b; have:=h'.b; omega⟩
theorem SL.cut {m k:Nat} {xs:List D} (h:SL m k xs) (lo hi:Option Int):SL m k (Yy xs lo hi):=⟨fun d hd=>h.a d (Q4r hd),Qj (Q0l ((List.take_sublist _ _).trans (List.drop_sublist _ _))) h.b⟩
theorem SL.rev {m k:Nat} {xs:List D} (h:SL m k xs):SL m k xs.reverse:=⟨fun d hd=>h.a d (List.mem_reverse.mp hd),by rw [Q5z]; exact h.b⟩
theorem SL.tup {m k:Nat} {ds:List D} (h:SL m k ds):SV 61 m (k + 1) (.tuple ds):=by
 obtain ⟨a1,a3,a4,_⟩:=Q41 ds h.a
 refine ⟨by simpa only [J9] using a1,by simpa only [J7] using a3,?_,?_⟩
 ·simp only [PyData.depth]; omega
 ·simp only [PyData.bulk]; exact h.b
theorem SL.lst {m k:Nat} {ds:List D} (h:SL m k ds):SV 61 m (k + 1) (.list ds):=by
 obtain ⟨a1,a3,a4,_⟩:=Q41 ds h.a
 refine ⟨by simpa only [J9] using a1,by simpa only [J7] using a3,?_,?_⟩
 ·simp only [PyData.depth]; omega
 ·simp only [PyData.bulk]; exact h.b
theorem Q5s:SL 0 0 []:=⟨fun _ h=>(nomatch h),Q5 _⟩
theorem Q4G {m k m' k':Nat} {d:D} {ds:List D} (h:SV 61 m k d) (h':SL m' k' ds):SL (m + 1 + m') (max k k') (d :: ds):=⟨fun e he=>by
 rcases Q7.mp he with rfl | he
 ·exact h.mon (by omega) (by omega)
 ·exact (h'.a e he).mon (by omega) (by omega),by
 simp only [Qb]
 have:=h.b
 have:=h'.b
 omega⟩
theorem Q9p {m k:Nat} {ds:List D} (h:SV 61 m k (.tuple ds)):SL m k ds:=by
 have s:=h.s
 have l:=h.l
 have dp:=h.dp
 have b:=h.b
 simp only [J9] at s
 simp only [J7] at l
 simp only [PyData.depth] at dp
 simp only [PyData.bulk] at b
 refine ⟨?_,b⟩
 have key:∀ ds:List D,PyData.showableAll ds = true → PyData.leavesShortAll 61 ds = true → Qr ds + 1 ≤ k → Qb ds ≤ m → ∀ d ∈ ds,SV 61 m k d:=by
  intro ds
  induction ds with
  | nil=>intro _ _ _ _ d hd; cases hd
  | cons x xs ih =>
   intro s l dp b d hd
   simp only [PyData.showableAll,Q3] at s
   simp only [PyData.leavesShortAll,Q3] at l
   simp only [Qr] at dp
   simp only [Qb] at b
   rcases Q7.mp hd with rfl | hd
   ·exact ⟨s.1,l.1,by omega,by omega⟩
   ·exact ih s.2 l.2 (by omega) (by omega) d hd
 exact key ds s l dp b
theorem svI {i:Int} (h:i.natAbs < 10 ^ 60):SV 61 0 0 (.int i):=by
 refine ⟨?_,?_,Q5 _,Q5 _⟩
 ·simp only [J9]
  by_cases c:i = 0
  ·subst c; decide
  ·have:i.natAbs.log2 < 200:=(Nat.log2_lt (by omega)).mpr (Nat.lt_trans h (by decide))
   simp; omega
 ·simp only [J7,decide_eq_true_eq]
  have e:=int_text_length_le10 (k:=60) (by decide) h
  show (Str.ofString (toString i)).length ≤ 61
  rw [PySem.ofString_length]
  omega
def svC (d:D):Bool:=d.showable && (d.leavesShort 61 && (decide (d.depth ≤ 3) && decide (d.bulk ≤ 20)))
theorem sv_c {d:D} (b:svC d = true):SV 61 20 3 d:=by
 unfold svC at b
 simp only [Q3,decide_eq_true_eq] at b
 exact ⟨b.1,b.2.1,b.2.2.1,b.2.2.2⟩
theorem Qa7 {m k:Nat} {d:D} (h:SV 61 m k d):SV 61 (m + 1) (k + 1) (.tuple [d]):=((Q4G h Q5s).mon (by omega) (by omega)).tup
theorem Q64 {a b:List D} (h:a.length + b.length ≤ 1000000):X2 (.tuple a) (.tuple b) = some (.tuple (a ++ b)):=by
 unfold X2 Q4k
 dsimp only
 rw [if_pos (Qj h Q0Q)]
 rfl
theorem Q3k (cs:List D) (lo hi:Option Int):Xj (.tuple cs) lo hi = some (.tuple (Yy cs lo hi)):=rfl
theorem Q4n {cs:List D} (lo hi:Option Int):(Yy cs lo hi).length ≤ cs.length:=((List.take_sublist _ _).trans (List.drop_sublist _ _)).length_le
mutual
def lf (n:Nat):D → Bool
 | .none=>true
 | .bool _=>true
 | .int i=>decide (i.natAbs < 10 ^ 59 + n)
 | .str z=>z.cps.toList.all fun c=>decide (c < 128)
 | .list xs=>lfA n xs
 | .tuple xs=>lfA n xs
 | .dict kv=>lfK n kv
def lfA (n:Nat):List D → Bool
 | []=>true
 | d :: ds=>lf n d && lfA n ds
def lfK (n:Nat):List (D × D) → Bool
 | []=>true
 | (a,b) :: r=>lf n a && (lf n b && lfK n r)
end
theorem Q1r {n:Nat}:∀ {ds:List D},lfA n ds = true ↔ ∀ d ∈ ds,lf n d = true
 | []=>⟨fun _ d h=>(nomatch h),fun _=>by rw [lfA]⟩
 | d :: ds=>by rw [lfA,Q3,Q1r,List.forall_mem_cons]
mutual
theorem Q0S {n n':Nat} (h:n ≤ n'):∀ d:D,lf n d = true → lf n' d = true
 | .none,_=>by rw [lf]
 | .bool _,_=>by rw [lf]
 | .int i,q=>by
  rw [lf,decide_eq_true_eq] at q ⊢
  omega
 | .str z,q=>by rw [lf] at q ⊢; exact q
 | .list xs,q=>by rw [lf] at q ⊢; exact Q2Y h xs q
 | .tuple xs,q=>by rw [lf] at q ⊢; exact Q2Y h xs q
 | .dict kv,q=>by rw [lf] at q ⊢; exact Q4E h kv q
theorem Q2Y {n n':Nat} (h:n ≤ n'):∀ ds:List D,lfA n ds = true → lfA n' ds = true
 | [],_=>by rw [lfA]
 | d :: ds,q=>by
  rw [lfA,Q3] at q ⊢
  exact ⟨Q0S h d q.1,Q2Y h ds q.2⟩
theorem Q4E {n n':Nat} (h:n ≤ n'):∀ kv:List (D × D),lfK n kv = true → lfK n' kv = true
 | [],_=>by rw [lfK]
 | (a,b) :: r,q=>by
  rw [lfK,Q3,Q3] at q ⊢
  exact ⟨Q0S h a q.1,Q0S h b q.2.1,Q4E h r q.2.2⟩
end
structure TC (m k n:Nat) (d:D):Prop where
 s:SV 61 m k d
 l:lf n d = true
theorem TC.mon {m k n m' k' n':Nat} {d:D} (h:TC m k n d) (a:m ≤ m') (b:k ≤ k') (c:n ≤ n'):TC m' k' n' d:=⟨h.s.mon a b,Q0S c d h.l⟩
structure UL (m k n:Nat) (ds:List D):Prop where
 s:SL m k ds
 l:∀ d ∈ ds,lf n d = true
theorem UL.mon {m k n m' k' n':Nat} {ds:List D} (h:UL m k n ds) (a:m ≤ m') (b:k ≤ k') (c:n ≤ n'):UL m' k' n' ds:=⟨h.s.mon a b,fun d hd=>Q0S c d (h.l d hd)⟩
theorem UL.app {m k m' k' n:Nat} {xs ys:List D} (h:UL m k n xs) (h':UL m' k' n ys):UL (m + m') (max k k') n (xs ++ ys):=⟨h.s.app h'.s,fun d hd=>(Qo.mp hd).elim (h.l d) (h'.l d)⟩
theorem UL.cut {m k n:Nat} {xs:List D} (h:UL m k n xs) (lo hi:Option Int):UL m k n (Yy xs lo hi):=⟨h.s.cut lo hi,fun d hd=>h.l d (Q4r hd)⟩
theorem UL.rev {m k n:Nat} {xs:List D} (h:UL m k n xs):UL m k n xs.reverse:=⟨h.s.rev,fun d hd=>h.l d (List.mem_reverse.mp hd)⟩
theorem UL.tup {m k n:Nat} {ds:List D} (h:UL m k n ds):TC m (k + 1) n (.tuple ds):=⟨h.s.tup,by rw [lf]; exact Q1r.mpr h.l⟩
theorem UL.lst {m k n:Nat} {ds:List D} (h:UL m k n ds):TC m (k + 1) n (.list ds):=⟨h.s.lst,by rw [lf]; exact Q1r.mpr h.l⟩
theorem Kt {n:Nat}:UL 0 0 n []:=⟨Q5s,fun _ h=>(nomatch h)⟩
theorem W2 {m k m' k' n:Nat} {d:D} {ds:List D} (h:TC m k n d) (h':UL m' k' n ds):UL (m + 1 + m') (max k k') n (d :: ds):=⟨Q4G h.s h'.s,fun e he=>by
 rcases Q7.mp he with rfl | he
 ·exact h.l
 ·exact h'.l e he⟩
theorem Q66 {m k n:Nat} {ds:List D} (h:TC m k n (.tuple ds)):UL m k n ds:=⟨Q9p h.s,by
 have:=h.l
 rw [lf] at this
 exact Q1r.mp this⟩
theorem Q5Y {m k n:Nat} {d:D} (h:TC m k n d):TC (m + 1) (k + 1) n (.tuple [d]):=((W2 h Kt).mon (by omega) (by omega) (Q5 _)).tup
theorem Q4R {m k n:Nat} {d:D} (h:TC m k n d):TC (m + 1) (k + 1) n (.list [d]):=((W2 h Kt).mon (by omega) (by omega) (Q5 _)).lst
theorem Q10 {n:Nat} {i:Int} (h:i.natAbs < 10 ^ 59 + n) (hn:n ≤ 1000000):TC 0 0 n (.int i):=⟨svI (by omega),by rw [lf,decide_eq_true_eq]; exact h⟩
theorem Q33 {n:Nat} {z:Str} (h:∀ c ∈ z.cps.toList,c < 128):TC z.cps.size 0 n (.str z):=by
 refine ⟨⟨rfl,?_,Q5 _,Q5 _⟩,?_⟩
 ·simp only [J7,Qi,decide_eq_true_eq]
  intro c hc
  have:=h c hc
  have e:(128:Nat) ≤ 16 ^ 8:=by decide
  omega
 ·rw [lf]
  simp only [Qi,decide_eq_true_eq]
  exact h
theorem Q7O {n:Nat} (b:Bool):TC 0 0 n (.bool b):=⟨⟨rfl,rfl,Q5 _,Q5 _⟩,by rw [lf]⟩
def okC (d:D):Bool:=svC d && lf 0 d
theorem Q7d {n:Nat} {d:D} (b:okC d = true):TC 20 3 n d:=by
 unfold okC at b
 rw [Q3] at b
 exact ⟨sv_c b.1,Q0S (J3 _) d b.2⟩
end K32
namespace K32
open PySem PySem.Spec PyProof.Rows L2 Z
variable {ι τ σ ρ:Type}
def FM:List (Str × Str):=[(("folder":Str),("pn":Str)),(("file":Str),("pnw":Str)),(("write":Str),("pw":Str)),(("link":Str),("ppn":Str)),(("move":Str),("ppn":Str)),(("drop":Str),("p":Str))]
def Q3m (d:D):Bool:=match d with
 | .tuple ds=>ds.all isW
 | _=>false
def okP (p:Str × D):Bool:=if p.1 = ("n":Str) then isW p.2 else Q3m p.2
def zp (f:Str) (r:List D):List (Str × D):=(f.cps.toList.zip r).map fun p=>(⟨#[p.1]⟩,p.2)
def dB (d:D):Bool:=match d with
 | .tuple (.str z :: r)=>match Kl FM z with
  | some f=>decide ((r.length:Int) = f.length) && (zp f r).all okP
  | none=>false
 | _=>false
theorem Q1H:∀ (xs:List (Str × Str)) (z:Str),xs.lookup z = Kl xs z
 | [],_=>rfl
 | p :: r,z=>by
  have ih:=Q1H r z
  unfold Kl at ih ⊢
  rw [List.lookup_cons,List.find?_cons]
  by_cases c:p.1 = z
  ·subst c
   simp
  ·rw [show (z == p.1) = false from beq_eq_false_iff_ne.mpr fun q=>c q.symm,decide_eq_false c]
   exact ih
theorem Q0s {z f:Str} (h:Kl FM z = some f):f = ("pn":Str) ∨ f = ("pnw":Str) ∨ f = ("pw":Str) ∨ f = ("ppn":Str) ∨ f = ("p":Str):=by
 have m:=Q6B h
 simp only [FM,Q7,Qa,or_false,Prod.mk.injEq] at m
 rcases m with ⟨_,rfl⟩ | ⟨_,rfl⟩ | ⟨_,rfl⟩ | ⟨_,rfl⟩ | ⟨_,rfl⟩ | ⟨_,rfl⟩ <;> simp
theorem Q9m {z f:Str} (h:Kl FM z = some f):f ≠ ("":Str):=by
 rcases Q0s h with rfl | rfl | rfl | rfl | rfl <;> decide
theorem Q6N {z f:Str} (h:Kl FM z = some f):Q4c f = some (f.length:Int):=by
 rcases Q0s h with rfl | rfl | rfl | rfl | rfl <;> exact if_pos (by decide)
theorem Q5Z {z f:Str} (h:Kl FM z = some f):Q31 f = true:=by
 rcases Q0s h with rfl | rfl | rfl | rfl | rfl <;> decide +kernel
theorem at0 {α:Type} (a:α) (r:List α):atI (a :: r) 0 = some a:=by
 obtain ⟨c,e⟩:=Q1M (a :: r) 0 (by omega) (by simp only [Q8]; omega)
 rw [e]
 rfl
theorem Q9h (a:D) (r:List D):Yy (a :: r) (some 1) none = r:=by
 unfold Yy
 have e1:HT.sIx (a :: r).length 0 (some 1) = 1:=by
  show (if (1:Int) < 0 then ((1:Int) + ((a :: r).length:Nat)).toNat else min (1:Int).toNat (a :: r).length) = 1
  rw [if_neg (by decide),Q8]
  show min 1 (r.length + 1) = 1
  omega
 have e2:HT.sIx (a :: r).length (a :: r).length none = r.length + 1:=rfl
 rw [e1,e2,List.drop_one,List.tail_cons]
 exact List.take_length ..
theorem Q4I {d:D} {r:List D} (h:d ∈ r):d.bulk ≤ Qb r:=by
 have:=Q0l (List.singleton_sublist.mpr h)
 simp only [Qb] at this
 omega
theorem Q7k {d:D} (hb:d.bulk ≤ 500000):Vq d = some (Q3m d):=by
 cases d with
 | tuple ds =>
  have mm:Q2G (fun x2=>(Yu x2)) ds = some (ds.map isW):=Q1N _ fun d _=>Q5Q d
  have l:=Z1 ds
  have hb':Qb ds ≤ 500000:=by simpa only [PyData.bulk] using hb
  unfold Vq
  show ((((K0 ds (Q2G (fun x2=>(Yu x2)) ds)).map fun v6=>(ds,v6))).map fun l5=>(l5.2.all id)).bind (fun b8=>(some b8)) = _
  rw [mm,Q2O (by omega)]
  simp only [Q6,Q1,List.all_map]
  rfl
 | none=>rfl
 | bool _=>rfl
 | int _=>rfl
 | str _=>rfl
 | list _=>rfl
 | dict _=>rfl
theorem Q4D (d:D):Xp d = some (isW d):=by
 unfold Xp
 rw [Q5E]
theorem Q8E (cs:List D):neZ ((eLi eD) (cs.filter fun x=>!isW x)) ((eLi Q0) ([])) = some (!cs.all isW):=by
 have e0:eLi eD (cs.filter fun x=>!isW x) = .list (cs.filter fun x=>!isW x):=by
  unfold eLi eD
  rw [List.map_id']
 rw [e0]
 by_cases q:cs.all isW = true
 ·have:(cs.filter fun x=>!isW x) = []:=by
   rw [List.filter_eq_nil_iff]
   intro x hx
   rw [Qi.mp q x hx]
   exact Bool.false_ne_true
  rw [this,q]
  rfl
 ·have n:¬ (cs.filter fun x=>!isW x) = []:=fun z=>q (Qi.mpr fun x hx=>by
   have:=(List.filter_eq_nil_iff.mp z) x hx
   simpa using this)
  have q':cs.all isW = false:=by simpa using q
  rw [q']
  cases w:(cs.filter fun x=>!isW x) with
  | nil=>exact absurd w n
  | cons _ _=>rfl
theorem Q6F {d:D} (hb:d.bulk ≤ 500000):(if (!(Yz "tuple" d)) then some true else (((((((V9 d)).bind fun v31=>(K0 v31 (Z4 (fun x32=>(((Xp x32)).map fun r33=>(!r33))) (fun x32=>(some x32)) v31)).map fun v36=>(v31,v36))).bind fun l35=>((neZ ((eLi eD) l35.2) ((eLi Q0) ([])))).map fun v38=>(l35,v38))).map fun b37=>b37.2)) = some (!Q3m d):=by
 cases d with
 | tuple ds =>
  have fm:Z4 (fun x24=>(((Xp x24)).map fun r25=>(!r25))) (fun x24=>(some x24)) ds = some (ds.filter fun x=>!isW x):=Q0Z _ fun x _=>by
   rw [Q4D]
   rfl
  have l:=Z1 ds
  have hb':Qb ds ≤ 500000:=by simpa only [PyData.bulk] using hb
  show ((((((K0 ds (Z4 (fun x32=>(((Xp x32)).map fun r33=>(!r33))) (fun x32=>(some x32)) ds)).map fun v36=>(ds,v36))).bind fun l35=>((neZ ((eLi eD) l35.2) ((eLi Q0) ([])))).map fun v38=>(l35,v38))).map fun b37=>b37.2) = _
  rw [fm,Q2O (by omega)]
  simp only [Q6,Q1,Q8E]
  rfl
 | none=>rfl
 | bool _=>rfl
 | int _=>rfl
 | str _=>rfl
 | list _=>rfl
 | dict _=>rfl
theorem Q6b {f:Str} (h:Q31 f = true) (r:List D):Q2h f (.tuple r) = some (zp f r):=if_pos h
theorem Q89 {f:Str} {r:List D} {x:Str × D} (h:x ∈ zp f r):x.2 ∈ r:=by
 obtain ⟨p,hp,rfl⟩:=List.mem_map.mp h
 exact (List.of_mem_zip hp).2
theorem Q6m {d:D} (hb:d.bulk ≤ 500000):Ka d = some (dB d):=by
 cases d with
 | tuple ds =>
  cases ds with
  | nil=>rfl
  | cons a r =>
   have e1:Yz "tuple" (.tuple (a :: r)) = true:=rfl
   have e2:eqE (.tuple (a :: r)) ((eTu Q0) []) = some false:=rfl
   have e3:Xe (.tuple (a :: r)) (.int 0) = some a:=at0 a r
   unfold Ka
   simp only [e1,e2,e3,Qt,Ql,if_false,Q1,Q6]
   cases a with
   | str z =>
    have hb':Qb r ≤ 500000:=by
     simp only [PyData.bulk,Qb] at hb
     omega
    have e4:Yz "str" (.str z) = true:=rfl
    have e5:asS (.str z) = some z:=rfl
    have ek:kgQ ([(("folder":Str),("pn":Str)),(("file":Str),("pnw":Str)),(("write":Str),("pw":Str)),(("link":Str),("ppn":Str)),(("move":Str),("ppn":Str)),(("drop":Str),("p":Str))]:List (Str × Str)) z ("":Str) = (Kl FM z).getD ("":Str):=by
     unfold kgQ
     rw [Q1H]
     rfl
    simp only [e4,e5,ek,Q0a,Qt,Ql,if_false,Q1,Q6]
    unfold dB
    dsimp only
    cases h:Kl FM z with
    | none=>rfl
    | some f =>
     have l1:(Vb (.tuple (.str z :: r))).bind asI = some ((r.length:Int) + 1):=by
      show some ((((Q2 z :: r).length:Nat):Int)) = _
      rw [Q8]
      rfl
     simp only [Option.getD_some,decide_eq_false (Q9m h),Ql,if_false,l1,Q6N h,Q1,Q6]
     by_cases c:(r.length:Int) = f.length
     ·have c':(r.length:Int) + 1 = 1 + f.length:=by omega
      rw [decide_eq_true c',decide_eq_true c]
      simp only [Qt,Ql,if_false,Q3k,Q9h,Q1,Q6,Q6b (Q5Z h)]
      rw [Q1O okP (zp f r) fun x hx=>?_]
      ·cases (zp f r).all okP <;> rfl
      ·have bx:x.2.bulk ≤ 500000:=Qj (Q4I (Q89 hx)) hb'
       rw [Q5Q,Q7k bx]
       unfold okP
       by_cases q:x.1 = ("n":Str)
       ·rw [decide_eq_true q,if_pos q]
        cases isW x.2 <;> rfl
       ·rw [decide_eq_false q,if_neg q]
        cases Q3m x.2 <;> rfl
     ·have c':¬ (r.length:Int) + 1 = 1 + f.length:=by omega
      rw [decide_eq_false c',decide_eq_false c]
      rfl
   | none=>rfl
   | bool _=>rfl
   | int _=>rfl
   | list _=>rfl
   | tuple _=>rfl
   | dict _=>rfl
 | none=>rfl
 | bool _=>rfl
 | int _=>rfl
 | str _=>rfl
 | list _=>rfl
 | dict _=>rfl
theorem Q7X {d:D} (hb:d.bulk ≤ 500000):Wr d = some (dB d):=by
 cases d with
 | tuple ds =>
  cases ds with
  | nil=>rfl
  | cons a r =>
   have e1:Yz "tuple" (.tuple (a :: r)) = true:=rfl
   have e2:eqE (.tuple (a :: r)) ((eTu Q0) []) = some false:=rfl
   have e3:Xe (.tuple (a :: r)) (.int 0) = some a:=at0 a r
   have e6:V5 = some FM:=rfl
   unfold Wr
   simp only [e1,e2,e3,e6,Qt,Ql,if_false,Q1,Q6]
   cases a with
   | str z =>
    have hb':Qb r ≤ 500000:=by
     simp only [PyData.bulk,Qb] at hb
     omega
    have e4:Yz "str" (.str z) = true:=rfl
    have e5:asS (.str z) = some z:=rfl
    simp only [e4,e5,Qt,Ql,if_false,Q1,Q6,Q8R]
    unfold dB
    dsimp only
    cases h:Kl FM z with
    | none=>rfl
    | some f =>
     have l1:(Vb (.tuple (.str z :: r))).bind asI = some ((r.length:Int) + 1):=by
      show some ((((Q2 z :: r).length:Nat):Int)) = _
      rw [Q8]
      rfl
     simp only [Option.isSome_some,Qt,Ql,if_false,l1,Q6N h,Q1,Q6]
     by_cases c:(r.length:Int) = f.length
     ·have c':(r.length:Int) + 1 = 1 + f.length:=by omega
      rw [decide_eq_true c',decide_eq_true c]
      simp only [Qt,Ql,if_false,Q3k,Q9h,Q1,Q6,Q6b (Q5Z h)]
      rw [Q1O okP (zp f r) fun x hx=>?_]
      ·cases (zp f r).all okP <;> rfl
      ·have bx:x.2.bulk ≤ 500000:=Qj (Q4I (Q89 hx)) hb'
       rw [Q4D,Q6F bx]
       unfold okP
       by_cases q:x.1 = ("n":Str)
       ·rw [decide_eq_true q,if_pos q]
        cases isW x.2 <;> rfl
       ·rw [decide_eq_false q,if_neg q]
        cases Q3m x.2 <;> rfl
     ·have c':¬ (r.length:Int) + 1 = 1 + f.length:=by omega
      rw [decide_eq_false c',decide_eq_false c]
      rfl
   | none=>rfl
   | bool _=>rfl
   | int _=>rfl
   | list _=>rfl
   | tuple _=>rfl
   | dict _=>rfl
 | none=>rfl
 | bool _=>rfl
 | int _=>rfl
 | str _=>rfl
 | list _=>rfl
 | dict _=>rfl
theorem Q3K {d:D} (h:SV 61 200000 60 d):Y1 d = some true:=by
 have hb:d.bulk ≤ 500000:=Qj h.b (by omega)
 have ez:=Q9K (h.mon (Q5 _) (by omega)) (by omega) (by omega)
 unfold Y1
 rw [ez,Q1,Q7X hb]
 refine (?_:∀ (o:Option (Unit ⊕ Bool)),Wt o (fun w=>w = .inl ()) → (o.bind (Sum.elim (fun s4=>(some true)) (fun v14=>(some v14)))) = some true) _ (Q1n (fun _:Unit=>True) trivial (fun x _ _ _=>?_) (fun _ _=>rfl))
 ·rintro o ⟨_,rfl,rfl⟩
  rfl
 rw [Q6m hb]
 simp only [Q1,Q6,Qt,Ql,if_false,decide_true]
 exact ⟨_,rfl,_,rfl,trivial⟩
end K32
namespace K32
open PySem PySem.Spec PyProof.Rows L2 Z
variable {ι τ σ ρ:Type}
theorem Q6g {n:Nat} {i:Int} (h:lf n (.int i) = true):i.natAbs < 10 ^ 59 + n:=by
 rw [lf,decide_eq_true_eq] at h
 exact h
theorem Q6Q {n:Nat} {z:Str} (h:lf n (.str z) = true):∀ c ∈ z.cps.toList,c < 128:=by
 rw [lf] at h
 simpa only [Qi,decide_eq_true_eq] using h
theorem Q5I {n:Nat} {i:Int} (h:i.natAbs < 10 ^ 60):Q36 (.int i) = some (.str (toString i)) ∧ TC 61 0 n (.str (toString i)):=by
 have s:=(svI h).s
 simp only [J9,decide_eq_true_eq] at s
 refine ⟨if_pos s,(Q33 fun c hc=>?_).mon ?_ (Q5 _) (Q5 _)⟩
 ·apply Classical.byContradiction
  intro q
  exact PyProof.Rows.int_text_free' c ⟨by omega,by omega⟩ i hc
 ·have e:=int_text_length_le10 (k:=60) (by decide) h
  show (Str.ofString (toString i)).length ≤ 61
  rw [PySem.ofString_length]
  omega
theorem Q5A (d:D) (h:(Yz "bool" d || Yz "int" d) = true):∃ t,eqD d (.int 1) = some t:=by
 cases d with
 | bool b=>cases b <;> exact ⟨_,rfl⟩
 | int i=>exact ⟨_,Q9w gI i 1⟩
 | none=>cases h
 | str _=>cases h
 | list _=>cases h
 | tuple _=>cases h
 | dict _=>cases h
theorem Q5U {z:Str} (h:∀ c ∈ z.cps.toList,c < 128):Txt.upper z = ⟨z.cps.map PyProof.Rows.up1⟩ ∧ ∀ c ∈ (Txt.upper z).cps.toList,c < 128:=by
 have e:=PyProof.Rows.upper_ascii h
 refine ⟨e,fun c hc=>?_⟩
 rw [e] at hc
 simp only [Array.toList_map,List.mem_map] at hc
 obtain ⟨a,ha,rfl⟩:=hc
 have:=h a ha
 unfold PyProof.Rows.up1
 split <;> omega
theorem Q3O {α:Type} {xs:List α} {i:Int} (h0:0 ≤ i) (h1:i < xs.length):∃ x,atI xs i = some x ∧ x ∈ xs:=by
 obtain ⟨c,e⟩:=Q1M xs i h0 h1
 exact ⟨_,e,List.getElem_mem c⟩
theorem Q53 {p0 p1 p2 p3 p4:Int} {d:D} {m k n:Nat} (h:TC m k n d) (hn:n ≤ 1000) (hd:(Yz "bool" d || Yz "int" d) = true) {P:D → Prop} (hP:∀ e,TC (2 * m + 100) (k + 4) (n + 2) e → P e) (w:0 ≤ p0 % 9 - 1 ∧ p0 % 9 - 1 < 8) :
  Wt ((((((Q3v d (Q0 1)).bind fun v6=>((((eqD d (Q0 1))).bind fun v7=>((((Q36 d)).bind fun v8=>(Q3e (Q0 (-1)) d).map fun v9=>(v8,v9))).map fun b10=>(v7,b10))).map fun b11=>(v6,b11))).bind fun b12=>((atI ([b12.1,(Q4 b12.2.1),b12.2.2.1,((eP1 eD) d),((eLi eD) ([d])),.none,b12.2.2.2,(Q4 false)]) ((p0 % 9) - 1))).map fun v14=>(b12,v14))).bind fun b13=>(some b13.2)) P:=by
 obtain ⟨t,et⟩:=Q5A d hd
 have cst:∀ e,okC e = true → P e:=fun e q=>hP e ((Q7d q).mon (by omega) (by omega) (Q5 _))
 have up:∀ {m' k' n':Nat} {e:D},TC m' k' n' e → m' ≤ m + 61 → k' ≤ k + 1 → n' ≤ n + 2 → P e:=fun q a b c=>hP _ (q.mon (by omega) (by omega) c)
 have main:∀ a s b:D,Q3v d (.int 1) = some a → Q36 d = some s → Q3e (.int (-1)) d = some b → P a → P s → P b → Wt ((((((Q3v d (Q0 1)).bind fun v6=>((((eqD d (Q0 1))).bind fun v7=>((((Q36 d)).bind fun v8=>(Q3e (Q0 (-1)) d).map fun v9=>(v8,v9))).map fun b10=>(v7,b10))).map fun b11=>(v6,b11))).bind fun b12=>((atI ([b12.1,(Q4 b12.2.1),b12.2.2.1,((eP1 eD) d),((eLi eD) ([d])),.none,b12.2.2.2,(Q4 false)]) ((p0 % 9) - 1))).map fun v14=>(b12,v14))).bind fun b13=>(some b13.2)) P:=fun a s b ea es eb pa ps pb=>by
  rw [ea,es,eb,et]
  simp only [Q1,Q6]
  refine Js (X9 (Q01 w.1 (by simp only [Q8,Qq]; omega) fun e he=>Xb (?_:P e)))
  simp only [Q7,Qa,or_false] at he
  rcases he with rfl | rfl | rfl | rfl | rfl | rfl | rfl | rfl
  ·exact pa
  ·exact up (Q7O (n:=n) t) (by omega) (by omega) (by omega)
  ·exact ps
  ·exact up (Q5Y h) (by omega) (by omega) (by omega)
  ·exact up (Q4R h) (by omega) (by omega) (by omega)
  ·exact cst _ (by decide +kernel)
  ·exact pb
  ·exact cst _ (by decide +kernel)
 cases d with
 | bool b =>
  refine main (.int ((if b = true then (1:Int) else 0) + 1)) (.str (if b = true then ("True":Str) else "False")) (.int (-1 - if b = true then (1:Int) else 0)) rfl rfl rfl ?_ ?_ ?_
  ·exact up (Q10 (n:=n) (by split <;> omega) (by omega)) (by omega) (by omega) (by omega)
  ·cases b <;> exact cst _ (by decide +kernel)
  ·exact up (Q10 (n:=n) (by split <;> omega) (by omega)) (by omega) (by omega) (by omega)
 | int i =>
  have b:=Q6g h.l
  obtain ⟨e1,e2⟩:=Q5I (n:=n) (i:=i) (by omega)
  refine main (.int (i + 1)) (.str (toString i)) (.int (-1 - i)) rfl e1 rfl ?_ ?_ ?_
  ·exact up (Q10 (n:=n + 2) (by omega) (by omega)) (by omega) (by omega) (by omega)
  ·exact up e2 (by omega) (by omega) (by omega)
  ·exact up (Q10 (n:=n + 2) (by omega) (by omega)) (by omega) (by omega) (by omega)
 | none=>cases hd
 | str _=>cases hd
 | list _=>cases hd
 | tuple _=>cases hd
 | dict _=>cases hd
theorem Q4Y {p0 p1:Int} (h1:0 ≤ p1) {z:Str} {m k n:Nat} (h:TC m k n (.str z)) (hm:m ≤ 70000) {P:D → Prop} (hP:∀ e,TC (2 * m + 100) (k + 4) (n + 2) e → P e) (w:0 ≤ p0 % 9 - 1 ∧ p0 % 9 - 1 < 8) :
  Wt (Q0a ([("folder":Str),("file":Str),("write":Str),("link":Str),("move":Str),("drop":Str),("drops":Str),("":Str)]) fun words_15=>(((((X2 (.str z) (Q2 ("s":Str))).bind fun v16=>((((Xj (.str z) none (some (-1)))).bind fun v17=>((((upD (.str z))).bind fun v18=>((((atI words_15 (p1 % 8))).bind fun v19=>((atI words_15 (p1 % 5))).map fun v20=>(v19,v20))).map fun b21=>(v18,b21))).map fun b22=>(v17,b22))).map fun b23=>(v16,b23))).bind fun b24=>((atI ([b24.1,b24.2.1,b24.2.2.1,((eP1 eD) (.str z)),((eLi eD) ([.str z])),(Q0 3),(Q2 b24.2.2.2.1),(Q2 b24.2.2.2.2)]) ((p0 % 9) - 1))).map fun v26=>(b24,v26))).bind fun b25=>(some b25.2)) P:=by
 have cst:∀ e,okC e = true → P e:=fun e q=>hP e ((Q7d q).mon (by omega) (by omega) (Q5 _))
 have up:∀ {m' k':Nat} {e:D},TC m' k' n e → m' ≤ m + 61 → k' ≤ k + 1 → P e:=fun q a b=>hP _ (q.mon (by omega) (by omega) (by omega))
 have hz:=Q6Q h.l
 have sz:z.cps.size ≤ m:=h.s.b
 have len:z.length ≤ m:=sz
 obtain ⟨u1,u2⟩:=Q5U hz
 have big:(1000000:Nat) ≤ sizeLine:=Q0Q
 have l1:(("s":Str)).length = 1:=rfl
 have e1:X2 (.str z) (.str ("s":Str)) = some (.str (z ++ ("s":Str))):=by
  unfold X2 Q4k
  dsimp only
  rw [if_pos (by rw [l1]; omega)]
  rfl
 have e2:Xj (.str z) none (some (-1)) = some (.str (cutS z none (some (-1)))):=if_pos (by omega)
 have e3:upD (.str z) = some (.str (Txt.upper z)):=if_pos (by omega)
 refine Q4B ?_
 rw [e1,e2,e3]
 simp only [Q1,Q6]
 refine Js (Js (X9 (X9 (X9 (Js (Q01 (by omega) (by simp only [Q8,Qq]; omega) fun a ha=>X9 (Q01 (by omega) (by simp only [Q8,Qq]; omega) fun b hb=>?_)))))))
 dsimp only
 refine X9 (Q01 w.1 (by simp only [Q8,Qq]; omega) fun e he=>Xb (?_:P e))
 have wd:∀ a ∈ ([("folder":Str),("file":Str),("write":Str),("link":Str),("move":Str),("drop":Str),("drops":Str),("":Str)]),P (.str a):=fun a ha=>by
  simp only [Q7,Qa,or_false] at ha
  rcases ha with rfl | rfl | rfl | rfl | rfl | rfl | rfl | rfl <;> exact cst _ (by decide +kernel)
 simp only [Q7,Qa,or_false] at he
 rcases he with rfl | rfl | rfl | rfl | rfl | rfl | rfl | rfl
 ·refine up (Q33 (n:=n) fun c hc=>?_) ?_ (by omega)
  ·have hc:c ∈ (z.cps ++ ("s":Str).cps).toList:=hc
   rw [Array.toList_append] at hc
   rcases Qo.mp hc with hc | hc
   ·exact hz c hc
   ·have:c = 115:=by
     have e:(("s":Str)).cps.toList = [115]:=rfl
     rw [e] at hc
     simpa using hc
    omega
  ·show (z.cps ++ ("s":Str).cps).size ≤ _
   rw [Array.size_append]
   have e:(("s":Str)).cps.size = 1:=rfl
   omega
 ·refine up (Q33 (n:=n) fun c hc=>hz c ?_) ?_ (by omega)
  ·exact List.mem_of_mem_drop (List.mem_of_mem_take hc)
  ·show ((List.take _ (List.drop _ z.cps.toList)).toArray).size ≤ _
   rw [Ja,List.length_take,List.length_drop,Array.length_toList]
   omega
 ·refine up (Q33 (n:=n) u2) ?_ (by omega)
  rw [u1]
  show (z.cps.map PyProof.Rows.up1).size ≤ _
  rw [Array.size_map]
  omega
 ·exact up (Q5Y h) (by omega) (by omega)
 ·exact up (Q4R h) (by omega) (by omega)
 ·exact cst _ (by decide +kernel)
 ·exact wd a ha
 ·exact wd b hb
end K32
namespace K32
open PySem PySem.Spec PyProof.Rows L2 Z
variable {ι τ σ ρ:Type}
theorem Q9l (a b c d e f g h:D):Q19 [a,b,c,d,e] [f,g,h] = some [a,b,c,d,e,f,g,h]:=if_pos (Qj (by simp only [Q8,Qq]; omega) Q0Q)
theorem Q6e {m k n:Nat} {ds:List D} (h:UL m k n ds) {x:D} (hx:x ∈ ds):TC m k n x:=⟨h.s.a x hx,h.l x hx⟩
theorem Q1T {p0 p1 p2 p3 p4:Int} (h1:0 ≤ p1) {d:D} {m k n:Nat} (h:TC m k n d) (hm:m ≤ 70000) (hn:n ≤ 1000) {P:D → Prop} (hP:∀ e,TC (2 * m + 100) (k + 4) (n + 2) e → P e):Wt (Vk [p0,p1,p2,p3,p4] d) P:=by
 have cst:∀ e,okC e = true → P e:=fun e q=>hP e ((Q7d q).mon (by omega) (by omega) (Q5 _))
 have up:∀ {m' k':Nat} {e:D},TC m' k' n e → m' ≤ 2 * m + 61 → k' ≤ k + 2 → P e:=fun q a b=>hP _ (q.mon (by omega) (by omega) (by omega))
 unfold Vk
 rw [show atI [p0,p1,p2,p3,p4] 0 = some p0 from rfl,show atI [p0,p1,p2,p3,p4] 1 = some p1 from rfl]
 simp only [Q1,Q6]
 refine Q4B ?_
 refine Kf (fun w0=>?_) fun w0=>?_
 ·refine Js (Q01 (by omega) (by simp only [Q8,Qq]; omega) fun e he=>Xb (cst e ?_))
  simp only [Q7,Qa,or_false] at he
  rcases he with rfl | rfl | rfl | rfl | rfl | rfl | rfl | rfl | rfl | rfl | rfl | rfl | rfl | rfl <;> decide +kernel
 have w0:=of_decide_eq_false w0
 have w:0 ≤ p0 % 9 - 1 ∧ p0 % 9 - 1 < 8:=by omega
 refine Kf (fun hd=>Q53 (p2:=p2) (p3:=p3) (p4:=p4) (p1:=p1) h hn hd hP w) fun hd=>?_
 refine Kf (fun hs=>?_) fun hs=>?_
 ·cases d with
  | str z=>exact Q4Y h1 h hm hP w
  | _=>cases hs
 have dflt:Wt (((atI ([((eP1 Q0) 0),((eLi Q0) ([])),.none,((eP1 (eTu Q0)) ([])),(Q2 ("":Str)),(Q0 0),((eDi Q0 Q0) ([])),((eP1 Q4) true)]) ((p0 % 9) - 1))).bind fun v30=>(some v30)) P:=by
  refine Js (Q01 w.1 (by simp only [Q8,Qq]; omega) fun e he=>Xb (cst e ?_))
  simp only [Q7,Qa,or_false] at he
  rcases he with rfl | rfl | rfl | rfl | rfl | rfl | rfl | rfl <;> decide +kernel
 cases d with
 | none=>exact dflt
 | bool _=>exact dflt
 | int _=>exact dflt
 | str _=>exact dflt
 | list _=>exact dflt
 | dict _=>exact dflt
 | tuple ds =>
  by_cases hds:ds = []
  ·subst hds
   exact dflt
  have lp:=List.length_pos_iff.mpr hds
  have U:=Q66 h
  have bl:ds.length ≤ m:=Qj (Z1 ds) U.s.b
  have e0:eqE (.tuple ds) ((eTu Q0) []) = some false:=by
   cases ds with
   | nil=>exact absurd rfl hds
   | cons a r=>rfl
  have e00:Yz "tuple" (.tuple ds) = true:=rfl
  have e1:(Vb (.tuple ds)).bind asI = some (ds.length:Int):=rfl
  have e2:Q3u p1 (ds.length:Int) = some (p1 % (ds.length:Int)):=if_pos (by omega)
  rw [e00,e0,e1]
  simp only [Qt,Ql,if_false,Q1]
  rw [e2]
  simp only [Q1,Q6]
  have j0:0 ≤ p1 % (ds.length:Int):=Int.emod_nonneg _ (by omega)
  have j1:p1 % (ds.length:Int) < ds.length:=J6 _ (by omega)
  revert j0 j1
  generalize p1 % (ds.length:Int) = j
  intro j0 j1
  obtain ⟨x,ex,hx⟩:=Q3O j0 j1
  have ei:Xe (.tuple ds) (.int j) = some x:=ex
  have tx:=Q6e U hx
  have cl:∀ lo hi,(Yy ds lo hi).length ≤ m:=fun lo hi=>Qj (Q4n lo hi) bl
  have ad:∀ xs ys:List D,xs.length ≤ m + 1 → ys.length ≤ m + 1 → X2 (.tuple xs) (.tuple ys) = some (.tuple (xs ++ ys)):=fun xs ys a b=>Q64 (by omega)
  have A1:=ad _ _ (Qv (cl none (some j))) (Qv (cl (some (j + 1)) none))
  have A2:=ad _ _ (Qv (cl none (some (j + 1)))) (Qv (cl (some j) none))
  have A3:Q5j (.tuple ds) = some (.tuple ds.reverse):=rfl
  have A4:Q2r (.tuple ds) = some (.list ds):=rfl
  have A5:X2 (.tuple ds) ((eP1 eD) x) = some (.tuple (ds ++ [x])):=ad ds [x] (by omega) (by simp)
  have A6:X2 (.tuple ds) ((eP1 (eTu Q0)) []) = some (.tuple (ds ++ [.tuple []])):=ad ds [.tuple []] (by omega) (by simp)
  have A7:=ad _ _ (Qv (cl (some j) none)) (Qv (cl none (some j)))
  simp only [Q3k,ei,A1,A2,A3,A4,A5,A6,A7,Q1,Q6,Q0a,Q9l]
  refine Js (X9 (Q01 w.1 (by simp only [Q8,Qq]; omega) fun e he=>Xb (?_:P e)))
  simp only [Q7,Qa,or_false] at he
  rcases he with rfl | rfl | rfl | rfl | rfl | rfl | rfl | rfl
  ·exact up ((U.cut _ _).app (U.cut _ _)).tup (by omega) (by omega)
  ·exact up ((U.cut _ _).app (U.cut _ _)).tup (by omega) (by omega)
  ·exact up U.rev.tup (by omega) (by omega)
  ·exact up U.lst (by omega) (by omega)
  ·exact up tx (by omega) (by omega)
  ·exact up (U.app (W2 tx Kt)).tup (by omega) (by omega)
  ·exact up (U.app (W2 Kt.tup Kt)).tup (by omega) (by omega)
  ·exact up ((U.cut _ _).app (U.cut _ _)).tup (by omega) (by omega)
theorem Q7U {p0 p1 p2 p3 p4:Int} (h1:0 ≤ p1) (h3:0 ≤ p3) (h4:0 ≤ p4) {d:D} {m k n:Nat} (h:TC m k n d) (hm:m ≤ 70000) (hn:n ≤ 1000) {P:D → Prop} (hP:∀ e,TC (8 * m + 400) (k + 8) (n + 2) e → P e):Wt (K9 [p0,p1,p2,p3,p4] d) P:=by
 have up:∀ {m' k' n':Nat} {e:D},TC m' k' n' e → m' ≤ 8 * m + 400 → k' ≤ k + 8 → n' ≤ n + 2 → P e:=fun q a b c=>hP _ (q.mon a b c)
 unfold K9
 have a2:atI [p0,p1,p2,p3,p4] 2 = some p2:=rfl
 have a3:atI [p0,p1,p2,p3,p4] 3 = some p3:=rfl
 have a4:atI [p0,p1,p2,p3,p4] 4 = some p4:=rfl
 simp only [a2,a3,a4,Q1,Q6]
 have dflt:Wt ((Vk [p0,p1,p2,p3,p4] d).bind fun r7=>some r7) P:=Js (Q1T h1 h hm hn fun e te=>Xb (up te (by omega) (by omega) (by omega)))
 by_cases c2:decide (p2 % 3 = 0) = true
 ·rw [if_pos c2]
  exact dflt
 rw [if_neg c2]
 cases d with
 | none=>exact dflt
 | bool _=>exact dflt
 | int _=>exact dflt
 | str _=>exact dflt
 | list _=>exact dflt
 | dict _=>exact dflt
 | tuple ds =>
  by_cases hds:ds = []
  ·subst hds
   exact dflt
  have lp:=List.length_pos_iff.mpr hds
  have U:=Q66 h
  have bl:ds.length ≤ m:=Qj (Z1 ds) U.s.b
  have e0:eqE (.tuple ds) ((eTu Q0) []) = some false:=by
   cases ds with
   | nil=>exact absurd rfl hds
   | cons a r=>rfl
  have e00:Yz "tuple" (.tuple ds) = true:=rfl
  have e1:(Vb (.tuple ds)).bind asI = some (ds.length:Int):=rfl
  have e2:Q3u p3 (ds.length:Int) = some (p3 % (ds.length:Int)):=if_pos (by omega)
  rw [e00,e0,e1]
  simp only [Qt,Ql,if_false,Q1,Q6]
  rw [e2]
  simp only [Q1,Q6]
  have j0:0 ≤ p3 % (ds.length:Int):=Int.emod_nonneg _ (by omega)
  have j1:p3 % (ds.length:Int) < ds.length:=J6 _ (by omega)
  revert j0 j1
  generalize p3 % (ds.length:Int) = j
  intro j0 j1
  obtain ⟨x,ex,hx⟩:=Q3O j0 j1
  have ei:Xe (.tuple ds) (.int j) = some x:=ex
  have tx:=Q6e U hx
  have cl:∀ lo hi,(Yy ds lo hi).length ≤ m:=fun lo hi=>Qj (Q4n lo hi) bl
  have ad:∀ xs ys:List D,xs.length ≤ 2 * m + 2 → ys.length ≤ m + 1 → X2 (.tuple xs) (.tuple ys) = some (.tuple (xs ++ ys)):=fun xs ys a b=>Q64 (by omega)
  have B1:∀ y:D,X2 (.tuple (Yy ds none (some j))) ((eP1 eD) y) = some (.tuple (Yy ds none (some j) ++ [y])):=fun y=>ad _ [y] (by have:=cl none (some j); omega) (by simp)
  have B2:∀ y:D,X2 (.tuple (Yy ds none (some j) ++ [y])) (.tuple (Yy ds (some (j + 1)) none)) = some (.tuple ((Yy ds none (some j) ++ [y]) ++ Yy ds (some (j + 1)) none)):=fun y=>ad _ _ (by rw [J4,List.length_singleton]; have:=cl none (some j); omega) (Qv (cl _ _))
  simp only [ei,Q1]
  have fin:∀ (y:D) (m' k':Nat),TC m' k' (n + 2) y → m' ≤ 6 * m + 300 → k' ≤ k + 6 → P (.tuple ((Yy ds none (some j) ++ [y]) ++ Yy ds (some (j + 1)) none)):=fun y m' k' ty a b=>by
   have U2:=U.mon (Q5 _) (Q5 _) (Qz n 2)
   exact up (((U2.cut _ _).app (W2 ty Kt)).app (U2.cut _ _)).tup (by omega) (by omega) (Q5 _)
  refine Js (Wt.mon (P:=fun b:Bool=>b = true → ∃ es,x = .tuple es ∧ es ≠ []) ?_ fun b hb=>?_)
  ·refine Kf (fun ht=>?_) fun _=>Xb (fun q=>by cases q)
   cases x with
   | tuple es =>
    by_cases he:es = []
    ·subst he
     exact Js (Xb (Kf (fun q=>by cases q) fun _=>Xb fun q=>by cases q))
    ·have en:neE (.tuple es) ((eTu Q0) []) = some true:=by
      cases es with
      | nil=>exact absurd rfl he
      | cons a r=>rfl
     rw [en]
     exact Js (Xb (Kf (fun _=>Xb fun _=>⟨es,rfl,he⟩) fun q=>by cases q))
   | _=>cases ht
  refine Kf (fun q=>?_) fun q=>?_
  ·obtain ⟨es,rfl,he⟩:=hb q
   have lpe:=List.length_pos_iff.mpr he
   have V:=Q66 tx
   have ble:es.length ≤ m:=Qj (Z1 es) V.s.b
   have f1:(Vb (.tuple es)).bind asI = some (es.length:Int):=rfl
   have f2:Q3u p4 (es.length:Int) = some (p4 % (es.length:Int)):=if_pos (by omega)
   rw [f1]
   simp only [Q1,Q6]
   rw [f2]
   simp only [Q1,Q6]
   have i0:0 ≤ p4 % (es.length:Int):=Int.emod_nonneg _ (by omega)
   have i1:p4 % (es.length:Int) < es.length:=J6 _ (by omega)
   revert i0 i1
   generalize p4 % (es.length:Int) = i
   intro i0 i1
   obtain ⟨y,ey,hy⟩:=Q3O i0 i1
   have ej:Xe (.tuple es) (.int i) = some y:=ey
   have ty:=Q6e V hy
   have cle:∀ lo hi,(Yy es lo hi).length ≤ m:=fun lo hi=>Qj (Q4n lo hi) ble
   have C1:∀ z:D,X2 (.tuple (Yy es none (some i))) ((eP1 eD) z) = some (.tuple (Yy es none (some i) ++ [z])):=fun z=>ad _ [z] (by have:=cle none (some i); omega) (by simp)
   have C2:∀ z:D,X2 (.tuple (Yy es none (some i) ++ [z])) (.tuple (Yy es (some (i + 1)) none)) = some (.tuple ((Yy es none (some i) ++ [z]) ++ Yy es (some (i + 1)) none)):=fun z=>ad _ _ (by rw [J4,List.length_singleton]; have:=cle none (some i); omega) (Qv (cle _ _))
   simp only [Q3k,ej,Q1,Q6]
   refine Js (Js (Js (Js (X9 (X9 (Q1T h1 ty hm hn fun z tz=>?_))))))
   simp only [C1,Q1,Q6]
   refine Xb (Xb ?_)
   dsimp only
   rw [C2]
   refine X9 (Xb ?_)
   simp only [B1,B2,Q6,Q1]
   refine Xb (fin _ (4 * m + 200) (k + 5) ?_ (by omega) (by omega))
   have V2:=V.mon (Q5 _) (Q5 _) (Qz n 2)
   exact (((V2.cut _ _).app (W2 tz Kt)).app (V2.cut _ _)).tup.mon (by omega) (by omega) (Q5 _)
  ·simp only [Q3k,Q1,Q6]
   refine Js (Js (Js (Js (X9 (Q1T h1 tx hm hn fun z tz=>?_)))))
   dsimp only
   rw [B1]
   refine X9 (Xb (Xb ?_))
   dsimp only
   rw [B2]
   refine X9 (Xb (Xb (fin z _ _ tz (by omega) (by omega))))
end K32
namespace K32
open PySem PySem.Spec PyProof.Rows L2 Z
variable {ι τ σ ρ:Type}
theorem Q3q {f:ι → σ → Option (τ × σ)} {P:List τ × σ → Prop} (R:ι → τ → Prop) (I:σ → Prop):∀ {xs:List ι} {s:σ},I s → (∀ x ∈ xs,∀ s,I s → Wt (f x s) fun p=>R x p.1 ∧ I p.2) → (∀ ys s,ys.length = xs.length → (∀ p ∈ xs.zip ys,R p.1 p.2) → I s → P (ys,s)) → Wt (Q1k f xs s) P
 | [],s,h,_,q=>⟨_,rfl,q [] s rfl (fun _ h=>nomatch h) h⟩
 | x :: xs,s,h,st,q=>by
  unfold Q1k
  refine Js ((st x (Qd ..) s h).mon fun p hp=>X9 (Q3q R I hp.2 (fun y hy=>st y (Q9 _ hy)) fun ys s' e a i=>?_))
  refine q _ _ (by simp [e]) (fun y hy=>?_) i
  rw [List.zip_cons_cons] at hy
  rcases Q7.mp hy with rfl | hy
  ·exact hp.1
  ·exact a y hy
theorem Q69 {k:Dk} (hk:k.cs.length ≤ 63) {P:Int × Dk → Prop} (hP:∀ i k',i.natAbs < 10 ^ 59 → k'.cs.length ≤ 63 → P (i,k')):Wt (Wi k) P:=by
 unfold Wi
 refine Js (Wv hk (by omega) (by omega) fun r1 k1 a0 a1 hk1=>?_)
 refine Js (Js (Js (Wv hk1 (by omega) (by omega) fun r3 k3 b0 b1 hk3=>X9 (Js (Wv hk3 (by omega) (by omega) fun r4 k4 c0 c1 hk4=>X9 (Wv hk4 (by omega) (by omega) fun r5 k5 d0 d1 hk5=>?_))))))
 dsimp only
 refine X9 (Q01 a0 (by simp only [Q8,Qq]; omega) fun e he=>Xb (hP e k5 ?_ hk5))
 simp only [Q7,Qa,or_false] at he
 rcases he with rfl | rfl | rfl | rfl | rfl | rfl | rfl | rfl <;> omega
theorem Q4L:∀ {xs:List Int},(∀ i ∈ xs,i.natAbs < 10 ^ 59) → UL xs.length 0 0 (xs.map Q0)
 | [],_=>Kt
 | x :: xs,h=>by
  have a:=Q4L fun i hi=>h i (Q9 _ hi)
  exact (W2 (Q10 (n:=0) (h x (Qd ..)) (by omega)) a).mon (by rw [Q8]; omega) (by omega) (Q5 _)
theorem Q5B (xs:List Int):(xs.map Q0).all isW = true:=by
 rw [List.all_map,Qi]
 intro x _
 rfl
theorem Q77 {k:Dk} {sort:Str} {most:Int} (hk:k.cs.length ≤ 63) (m0:0 ≤ most) (m1:most ≤ 200) {P:D × Dk → Prop} (hP:∀ d k',okP (sort,d) = true → TC 200 1 0 d → k'.cs.length ≤ 63 → P (d,k')):Wt (Q0D k sort most) P:=by
 unfold Q0D
 refine Kf (fun h=>?_) fun h=>?_
 ·refine Js (Q69 hk fun i k1 hi hk1=>Xb (hP _ _ ?_ ((Q10 (n:=0) hi (by omega)).mon (by omega) (by omega) (Q5 _)) hk1))
  unfold okP
  rw [if_pos (of_decide_eq_true h)]
  rfl
 ·refine Js (Js (Js (Wv hk (by omega) (by omega) fun r k1 r0 r1 hk1=>X9 (Q7I (by omega) (by omega) ?_))))
  dsimp only
  refine X9 (Q1o (by rw [K6]; omega) (Q1p (fun i:Int=>i.natAbs < 10 ^ 59) (fun _ s=>s.cs.length ≤ 63) hk1 (fun y ys s hs=>?_) fun ws k2 lw hw hk2=>?_))
  ·exact X9 (Q69 hs fun i k' hi hk'=>⟨hi,hk'⟩)
  rw [K6] at lw
  refine Xb (hP _ _ ?_ ((Q4L hw).tup.mon (by omega) (by omega) (Q5 _)) hk2)
  unfold okP
  rw [if_neg (of_decide_eq_false h)]
  exact Q5B ws
def WD:List Str:=[("folder":Str),("file":Str),("write":Str),("link":Str),("move":Str),("drop":Str)]
theorem Q3N:∀ {ps:List D},(∀ d ∈ ps,TC 200 1 0 d) → UL (201 * ps.length) 1 0 ps
 | [],_=>Kt.mon (Q5 _) (by omega) (Q5 _)
 | x :: xs,h=>by
  have a:=Q3N fun i hi=>h i (Q9 _ hi)
  exact (W2 (h x (Qd ..)) a).mon (by rw [Q8]; omega) (by omega) (Q5 _)
theorem Q7e (f:Str) (ps:List D):(chN f).zip ps = zp f ps:=by
 unfold chN zp
 rw [List.zip_map_left]
 rfl
theorem Q2C (f:Str):(chN f).length = f.length:=by
 unfold chN
 rw [Qc,Array.length_toList]
 rfl
theorem Q72 {k:Dk} {w:Str} {most:Int} (hw:w ∈ WD) (hk:k.cs.length ≤ 63) (m0:0 ≤ most) (m1:most ≤ 200) {P:D × Dk → Prop} (hP:∀ d k',dB d = true → TC 1000 4 0 d → k'.cs.length ≤ 63 → P (d,k')):Wt (Q0H k w most) P:=by
 have e6:V5 = some FM:=rfl
 obtain ⟨f,hf⟩:∃ f,Kl FM w = some f:=by
  simp only [WD,Q7,Qa,or_false] at hw
  rcases hw with rfl | rfl | rfl | rfl | rfl | rfl <;> exact ⟨_,rfl⟩
 have wa:okC (.str w) = true:=by
  simp only [WD,Q7,Qa,or_false] at hw
  rcases hw with rfl | rfl | rfl | rfl | rfl | rfl <;> decide +kernel
 have lf:f.length ≤ 3:=by
  rcases Q0s hf with rfl | rfl | rfl | rfl | rfl <;> decide
 unfold Q0H
 rw [e6]
 simp only [Q1,Q6]
 rw [hf]
 simp only [Q1,Q6]
 refine Js (Js (X9 (Q1o (by rw [Q2C]; omega) (Q3q (fun c d=>okP (c,d) = true ∧ TC 200 1 0 d) (fun s=>s.cs.length ≤ 63) hk (fun c _ s hs=>?_) fun ps k1 lp hp hk1=>?_))))
 ·exact X9 (Q77 hs m0 m1 fun d k' a b hk'=>⟨⟨a,b⟩,hk'⟩)
 dsimp only
 rw [Q2C] at lp
 refine X9 (Q8c (by simp only [Q8,Qq]; omega) (Xb (hP _ _ ?_ ?_ hk1)))
 ·show dB (.tuple ((.str w :: ps).map eD)) = true
  unfold eD
  rw [List.map_id']
  unfold dB
  dsimp only
  rw [hf]
  dsimp only
  rw [decide_eq_true (show (ps.length:Int) = f.length by omega),Bool.true_and,← Q7e,Qi]
  intro x hx
  exact (hp x hx).1
 ·show TC 1000 4 0 (.tuple ((.str w :: ps).map eD))
  unfold eD
  rw [List.map_id']
  have all:∀ d ∈ ps,TC 200 1 0 d:=fun d hd=>by
   obtain ⟨i,hi,e⟩:=List.mem_iff_getElem.mp hd
   have hi2:i < (chN f).length:=by rw [Q2C]; omega
   have:((chN f)[i],ps[i]) ∈ (chN f).zip ps:=List.mem_iff_getElem.mpr ⟨i,by rw [List.length_zip]; omega,by rw [List.getElem_zip]⟩
   have:=(hp _ this).2
   rw [e] at this
   exact this
  exact (W2 ((Q7d (n:=0) wa).mon (Q5 _) (show 3 ≤ 3 by omega) (Q5 _)) (Q3N all)).tup.mon (by omega) (by omega) (Q5 _)
def svD (d:D):Bool:=d.showable && (d.leavesShort 61 && (decide (d.depth ≤ 60) && decide (d.bulk ≤ 200000)))
theorem sv_d {d:D} (b:svD d = true):SV 61 200000 60 d:=by
 unfold svD at b
 simp only [Q3,decide_eq_true_eq] at b
 exact ⟨b.1,b.2.1,b.2.2.1,b.2.2.2⟩
theorem Q7M {lo:Int} {n:Nat} {x:Int} (h:x ∈ Q0d lo n):lo ≤ x ∧ x < lo + n:=by
 unfold Q0d at h
 obtain ⟨i,hi,rfl⟩:=List.mem_map.mp h
 have:=List.mem_range.mp hi
 omega
def PK (ps:List Int):Prop:=∃ p0 p1 p2 p3 p4:Int,ps = [p0,p1,p2,p3,p4] ∧ 0 ≤ p1 ∧ 0 ≤ p3 ∧ 0 ≤ p4
theorem Q9u {ps:List Int} (h:ps.length = 5) (h0:∀ p ∈ ps,0 ≤ p):PK ps:=by
 match ps,h with
 | [p0,p1,p2,p3,p4],_=>exact ⟨p0,p1,p2,p3,p4,rfl,h0 p1 (by simp),h0 p3 (by simp),h0 p4 (by simp)⟩
theorem Q4s {ps:List Int} (hp:PK ps) {d:D} {m k n:Nat} (h:TC m k n d) (hm:m ≤ 70000) (hn:n ≤ 1000) {P:D → Prop} (hP:∀ e,TC (8 * m + 400) (k + 8) (n + 2) e → P e):Wt (K9 ps d) P:=by
 obtain ⟨p0,p1,p2,p3,p4,rfl,a,b,c⟩:=hp
 exact Q7U a b c h hm hn hP
theorem Q8X {ps:List Int} (hp:PK ps):∃ v,atI ps 4 = some v:=by
 obtain ⟨p0,p1,p2,p3,p4,rfl,a,b,c⟩:=hp
 exact ⟨p4,rfl⟩
theorem Q3H {m k n:Nat} {d:D} (h:TC m k n d) (hm:m ≤ 200000) (hk:k ≤ 60):Y1 d = some true:=Q3K (h.s.mon hm hk)
theorem Q8H:(Q0a ([.none,(Q4 true),(Q0 0),(Q2 ("drop":Str)),(Q2 ("":Str)),((eTu Q0) ([])),((eLi Q0) ([])),((eDi Q0 Q0) ([])),((eP1 Q2) ("drop":Str)),((eP2 Q2 (eTu Q0)) (("drop":Str),[])),((eLi eD) ([(Q2 ("drop":Str)),((eTu Q0) ([]))])),((eP3 Q2 (eTu Q0) (eTu Q0)) (("drop":Str),[],[]))]) fun some_55=>(((((Q19 some_55 ([((eP2 (eP1 Q2) (eTu Q0)) (("drop":Str),[])),((eP2 Q2 (eP1 Q0)) (("drop":Str),0)),((eP3 Q2 (eTu Q0) (eTu Q0)) (("write":Str),[],[]))])).bind fun v56=>((Q1z )).map fun r57=>(v56,r57))).bind fun b58=>(Q19 b58.1 b58.2).map fun v60=>(b58,v60))).bind fun b59=>((((K0 b59.2 (Z4 (fun x62=>(((Y1 x62)).map fun r63=>(!r63))) (fun x62=>(some x62)) b59.2))).bind fun l64=>((eqZ ((eLi eD) l64) ((eLi Q0) ([])))).map fun v66=>(l64,v66))).bind fun b65=>(some b65.2)) = some true:=by
 unfold Q0a
 have key:∀ (o:Option ((List D × List D) × List D)),(match o with | some p=>p.2.all svD && decide (p.2.length ≤ 1000) | none=>false) = true → (o.bind fun b59=>((((K0 b59.2 (Z4 (fun x62=>(((Y1 x62)).map fun r63=>(!r63))) (fun x62=>(some x62)) b59.2))).bind fun l64=>((eqZ ((eLi eD) l64) ((eLi Q0) ([])))).map fun v66=>(l64,v66))).bind fun b65=>(some b65.2)) = some true:=fun o ho=>by
  cases o with
  | none=>cases ho
  | some p =>
   dsimp only at ho
   rw [Q3,decide_eq_true_eq,Qi] at ho
   have fm:Z4 (fun x62=>(((Y1 x62)).map fun r63=>(!r63))) (fun x62=>(some x62)) p.2 = some (p.2.filter fun _=>false):=Q0Z _ fun x hx=>by
    rw [Q3K (sv_d (ho.1 x hx))]
    rfl
   have nf:p.2.filter (fun _=>false) = []:=by simp
   rw [Q1,fm,Q2O (by omega),nf]
   rfl
 exact key _ (by decide +kernel)
theorem Q8K (ns:List Int):Q6t ns = some true:=by
 have hk:(Q1J ns).cs.length ≤ 63:=by
  show ((ns.take 63).reverse).length ≤ 63
  rw [Jc,List.length_take]
  omega
 unfold Q6t
 have e6:V5 = some FM:=rfl
 have e7:FM.map (·.1) = WD:=rfl
 rw [e6,Q1,e7]
 refine Eq.trans (show _ = _ from rfl:Q0a WD _ = _) ?_
 refine (?_:∀ (o:Option (Dk ⊕ Bool)),Wt o (fun w=>∃ s,w = .inl s) → (o.bind (Sum.elim _ (fun v68=>(some v68)))) = some true) _ (Q1n (fun s:Dk=>s.cs.length ≤ 63) hk (fun x _ s hs=>?_) (fun s _=>⟨s,rfl⟩))
 ·rintro o ⟨q,rfl,s,rfl⟩
  exact Q8H
 refine Js (Q1o (by unfold rngK; rw [K6]; omega) (Q1p PK (fun _ s=>s.cs.length ≤ 63) hs (fun y ys s hs=>?_) fun pk k1 lp hp hk1=>?_))
 ·refine X9 (Q1o (by unfold rngK; rw [K6]; omega) (Q1p (fun r:Int=>0 ≤ r) (fun _ s=>s.cs.length ≤ 63) hs (fun y ys s hs=>?_) fun ws k5 lw hw hk5=>⟨Q9u ?_ hw,hk5⟩))
  ·exact X9 (Wv hs (by omega) (by omega) fun r k' r0 _ hk'=>⟨r0,hk'⟩)
  ·unfold rngK at lw
   rw [K6] at lw
   exact lw
 unfold rngK at lp
 rw [K6] at lp
 have lp:pk.length = 16:=lp
 dsimp only
 refine Js (Js (Js (Js (Wv hk1 (by omega) (by omega) fun r k2 r0 r1 hk2=>X9 (Q01 (by omega) (by show _ < ((6:Nat):Int); omega) fun w hw=>X9 (Js (Wv hk2 (by omega) (by omega) fun r2 k3 a0 a1 hk3=>X9 (Q01 a0 (by simp only [Q8,Qq]; omega) fun mo hmo=>?_))))))))
 dsimp only
 have mb:0 ≤ mo ∧ mo ≤ 200:=by
  simp only [Q7,Qa,or_false] at hmo
  rcases hmo with rfl | rfl | rfl | rfl <;> omega
 refine X9 (Q72 hw hk3 mb.1 mb.2 fun d k4 hd td hk4=>?_)
 dsimp only
 rw [Q6m (Qj td.s.b (by omega)),hd,Q1,decide_eq_true rfl]
 rw [if_neg (by simp)]
 refine (?_:∀ (o:Option (Unit ⊕ Bool)),Wt o (fun w=>w = .inl ()) → Wt (o.bind (Sum.elim (fun s37=>((Y1 d)).bind fun r52=>if (!r52) then (some (Sum.inr false)) else (some (Sum.inl k4))) (fun v54=>(some (Sum.inr v54))))) (fun w:Dk ⊕ Bool=>∃ s',w = .inl s' ∧ s'.cs.length ≤ 63)) _ (Q1n (fun _:Unit=>True) trivial (fun x hx u _=>?_) (fun _ _=>rfl))
 ·rintro o ⟨_,rfl,rfl⟩
  rw [Q1,Sum.elim_inl,Q3H td (by omega) (by omega),Q1]
  exact ⟨_,rfl,_,rfl,hk4⟩
 have xb:=Q7M hx
 have xb:0 ≤ x ∧ x < 8:=⟨xb.1,by have:=xb.2; simpa using this⟩
 obtain ⟨pa,ea,ma⟩:=Q3O (xs:=pk) (i:=2 * x) (by omega) (by omega)
 obtain ⟨pb,eb,mb'⟩:=Q3O (xs:=pk) (i:=2 * x + 1) (by omega) (by omega)
 obtain ⟨v4,e4⟩:=Q8X (hp pa ma)
 simp only [ea,eb,e4,Q1,Q6]
 refine Js (X9 (Q4s (hp pa ma) td (by omega) (by omega) fun e te=>?_))
 dsimp only
 refine Js (Wt.mon (P:=fun e':D=>TC 200000 60 1000 e') ?_ fun e' te'=>?_)
 ·refine Kf (fun _=>?_) fun _=>Xb (te.mon (by omega) (by omega) (by omega))
  exact Js (X9 (Q4s (hp pb mb') te (by omega) (by omega) fun z tz=>Xb (tz.mon (by omega) (by omega) (by omega))))
 rw [Q3H te' (by omega) (by omega),Q1]
 exact ⟨_,rfl,_,rfl,trivial⟩
end K32
namespace K32
open PySem PySem.Spec PyProof.Rows L2 Z
variable {ι τ σ ρ:Type}
theorem law_true:∀ ns:List Int,ns.length ≤ 63 → ∃ outs,φ_law [.scr ns] = some (.bool true,outs):=fun ns _=>⟨_,Qa1 ns true (Q8K ns)⟩
end K32
namespace K32
open PySem PySem.Spec PyProof.Rows L2 Z
theorem Q8s {l:PySem.W.OpenLaw} {w:World} {K:PySem.W.Frag} {h:Heap} {mg:Str → Option Value} {fa:Addr} (X:K.In h) (G:h.Ns mainGlobals mg) (hfa:mg "law" = some (.ref fa))
  {f15:Addr} {od15 an15:Option Addr} {sl15:Array (Option Value)} {oc15 kV15 dc15 pm15 cd15 ct15:Value}
  {kp0:Addr}
  (F0:Vj K "is_number" "is_number" Zd)
  (F1:Vj K "are_numbers" "are_numbers" Vp)
  (F2:Vj K "is_deed" "is_deed" Q15)
  (F3:Vj K "_law_deck" "_law_deck" Zf)
  (F4:Vj K "_law_draw" "_law_draw" Z8)
  (F5:Vj K "_law_forms" "_law_forms" Ke)
  (F6:Vj K "_law_number" "_law_number" Wz)
  (F7:Vj K "_law_part" "_law_part" Wn)
  (F8:Vj K "_law_deed" "_law_deed" Wq)
  (F9:Vj K "_law_is_number" "_law_is_number" Vm)
  (F10:Vj K "_law_is_deed" "_law_is_deed" V7)
  (F11:Vj K "_law_other" "_law_other" Ki)
  (F12:Vj K "_law_bent" "_law_bent" Z6)
  (F13:Vj K "_law_right" "_law_right" Kp)
  (F14:Vj K "_law_deep" "_law_deep" Zb)
  (a15:PySem.W.nsIn K mainGlobals "law" = some (some (.ref f15))) (l15:K.lookup f15 = some ⟨oc15,od15,.func (PySem.W.fnOf "law" "law" (defArgs Zg) (defBody Zg) (defScope Zg) .none kV15 dc15 pm15 an15 cd15 ct15),sl15⟩) (c15:PySem.W.codeIn K cd15 "law" = true) (k15:PySem.W.keepIn K (.ref f15) = true)
  (z0:PySem.W.nsIn K mainGlobals "all" = some none)
  (z1:PySem.W.nsIn K mainGlobals "bool" = some none)
  (z2:PySem.W.nsIn K mainGlobals "int" = some none)
  (z3:PySem.W.nsIn K mainGlobals "isinstance" = some none)
  (z4:PySem.W.nsIn K mainGlobals "len" = some none)
  (z5:PySem.W.nsIn K mainGlobals "list" = some none)
  (z6:PySem.W.nsIn K mainGlobals "range" = some none)
  (z7:PySem.W.nsIn K mainGlobals "repr" = some none)
  (z8:PySem.W.nsIn K mainGlobals "reversed" = some none)
  (z9:PySem.W.nsIn K mainGlobals "str" = some none)
  (z10:PySem.W.nsIn K mainGlobals "sum" = some none)
  (z11:PySem.W.nsIn K mainGlobals "tuple" = some none)
  (z12:PySem.W.nsIn K mainGlobals "zip" = some none)
  (ka0:PySem.W.nsIn K mainGlobals "FORMS" = some (some (.ref kp0))) (kd0:He.dicW K kp0 = some (He.keysIn w.params ["folder", "file", "write", "link", "move", "drop"])) (kh0:(Zr.all fun h=>kdS K kp0 h.1 h.2) = true)
  : ∃ fd:FuncData,(∀ (s:Shared) (v:Value),BindsTo s fd ⟨[v],[]⟩ [("_law_script",v)]) ∧ ∀ base:Heap,K.In base → base.Ns mainGlobals mg → (∃ o,base.get? sysModules = some o) → FnG l.prog w K mg base CX0 5 fa fd ["_law_script"] (spF K 1 .n φ_law):=by
 cases hfa.symm.trans (PySem.W.mg_of X G a15)
 refine ⟨PySem.W.fnOf "law" "law" (defArgs Zg) (defBody Zg) (defScope Zg) .none kV15 dc15 pm15 an15 cd15 ct15,fun s v=>.of_eq rfl,fun base _ _ hM=>?_⟩
 have T:Txt K mg base:={ hM:=hM,m_all:=PySem.W.mg_none_of X G z0,m_bool:=PySem.W.mg_none_of X G z1,m_int:=PySem.W.mg_none_of X G z2,m_isinstance:=PySem.W.mg_none_of X G z3,m_len:=PySem.W.mg_none_of X G z4,m_list:=PySem.W.mg_none_of X G z5,m_range:=PySem.W.mg_none_of X G z6,m_repr:=PySem.W.mg_none_of X G z7,m_reversed:=PySem.W.mg_none_of X G z8,m_str:=PySem.W.mg_none_of X G z9,m_sum:=PySem.W.mg_none_of X G z10,m_tuple:=PySem.W.mg_none_of X G z11,m_zip:=PySem.W.mg_none_of X G z12 }
 have h_is_number:=Y9 F0 X G (Q34 (P:=l.prog) (w:=w) (base:=base) T )
 have h_are_numbers:=Y9 F1 X G (Q1G (P:=l.prog) (w:=w) (base:=base) T h_is_number)
 have h_FORMS:KdS w K mg "FORMS" Zr:=Q8I (PySem.W.mg_of X G ka0) kd0 kh0 rfl
 have h_is_deed:=Y9 F2 X G (Q4g (P:=l.prog) (w:=w) (base:=base) T h_FORMS h_are_numbers h_is_number)
 have h__law_deck:=Y9 F3 X G (Q3c (P:=l.prog) (w:=w) (base:=base) T )
 have h__law_draw:=Y9 F4 X G (Q3a (P:=l.prog) (w:=w) (base:=base) T )
 have h__law_forms:=Y9 F5 X G (Q25 (P:=l.prog) (w:=w) (base:=base) T )
 have h__law_number:=Y9 F6 X G (Q1y (P:=l.prog) (w:=w) (base:=base) T h__law_draw)
 have h__law_part:=Y9 F7 X G (Q2Q (P:=l.prog) (w:=w) (base:=base) T h__law_draw h__law_number)
 have h__law_deed:=Y9 F8 X G (Q32 (P:=l.prog) (w:=w) (base:=base) T h__law_forms h__law_part)
 have h__law_is_number:=Y9 F9 X G (Q0K (P:=l.prog) (w:=w) (base:=base) T )
 have h__law_is_deed:=Y9 F10 X G (Q1i (P:=l.prog) (w:=w) (base:=base) T h__law_forms h__law_is_number)
 have h__law_other:=Y9 F11 X G (Q23 (P:=l.prog) (w:=w) (base:=base) T )
 have h__law_bent:=Y9 F12 X G (Q2B (P:=l.prog) (w:=w) (base:=base) T h__law_other)
 have h__law_right:=Y9 F13 X G (Q2c (P:=l.prog) (w:=w) (base:=base) T h__law_is_deed h_is_deed)
 have h__law_deep:=Y9 F14 X G (Q2W (P:=l.prog) (w:=w) (base:=base) T )
 exact Q99 T h__law_bent h__law_deck h__law_deed h__law_deep h__law_draw h__law_forms h__law_right h_is_deed (fun_mk (st:=Zg) l15 c15 k15)
theorem all_of {l:PySem.W.OpenLaw} {w:World} {K:PySem.W.Frag} {h:Heap} {mg:Str → Option Value} {fa:Addr} (X:K.In h) (G:h.Ns mainGlobals mg) (hla:mg "law" = some (.ref fa)) (c:Wo Q8r Q95 Q98 Q7j Q8Y w K)
  : ∃ fd:FuncData,(∀ (s:Shared) (v:Value),BindsTo s fd ⟨[v],[]⟩ [("_law_script",v)]) ∧ ∀ base:Heap,K.In base → base.Ns mainGlobals mg → (∃ o,base.get? sysModules = some o) → FnG l.prog w K mg base CX0 5 fa fd ["_law_script"] (spF K 1 .n φ_law):=by
 obtain ⟨_,_,_,_,_,_,_,_,_,l,k,kp⟩:=c.law 15
 have e0:Q7j K = true:=c.more
 exact Q8s X G hla (c.fd 0 0) (c.fd 1 1) (c.fd 2 2) (c.fd 3 3) (c.fd 4 4) (c.fd 5 5) (c.fd 6 6) (c.fd 7 7) (c.fd 8 8) (c.fd 9 9) (c.fd 10 10) (c.fd 11 11) (c.fd 12 12) (c.fd 13 13) (c.fd 14 14) (c.gl 15) l k kp (c.fr 16) (c.fr 17) (c.fr 18) (c.fr 19) (c.fr 20) (c.fr 21) (c.fr 22) (c.fr 23) (c.fr 24) (c.fr 25) (c.fr 26) (c.fr 27) (c.fr 28) (c.gl 29) (c.tb 0) e0
end K32
open PySem PySem.W PySem.Calls PyProof.Rows
set_option maxHeartbeats 0 in
theorem PySem.Challenge.cw_soundstore_k32_what_is_a_deed_holds : PySem.Challenge.rw_soundstore_k32_what_is_a_deed.Holds := by
 w_on; refine K32.hd_o fun said => ?_
 refine HandSHeadRun.head_any (r := K32.hdR) (q := K32.hdQ) (H := K32.hdH) (ob := K32.hdO) (M := 12000) (loose := K32.hdNm) (d := HandSHeadRun.topDef K32.hdR.prog 19) (kwd := []) K32.hdO_eq
  K32.hd_e K32.hd_f K32.run_w K32.hd_d K32.hd_p K32.hd_k K32.hd_1 said K32.hd_3 K32.hd_4 ?hw ?hc
 case hw => w_witness2
 case hc =>
  refine Z.zwalkF (l := PySem.Challenge.rw_soundstore_k32_what_is_a_deed) (n := 63) (k := 5) (x := "_law_script") (φ := K32.φ_law) (by decide +kernel) rfl (by decide) (by kernel_rfl) ⟨rfl, by decide, by decide⟩ ?F K32.law_true
  intro w mg fa h Y G hmg0
  obtain ⟨K, KX, c⟩ := Y
  have hmg : mg ("law" : PySem.Str) = some (.ref fa) := by
   have e : (HandSHeadRun.topDef K32.hdR.prog 19).name = ("law" : PySem.Str) := by kernel_rfl
   rw [← e]
   exact hmg0
  exact ⟨K, KX, K32.all_of KX G hmg c⟩

